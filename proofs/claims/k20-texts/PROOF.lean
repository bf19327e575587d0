import PyProof.Rows.All
import Wide.All
import OpenK.AllK
import Wide.FinOn
import HandS.ForMost
import HandS.ForExc
import HandS.Wide
import HandS.Star
import HandS.CallSlots
import HandS.ClsMeth
import HandS.Property
import HandS.Lambda
import HandS.IsInst
import HandS.TupAny
import HandS.EndBits
import HandS.Iter
import KE.GoesMore
import KE.GoesEnum
import PyProof.LongRange
import HandS.FStr
import HandS.RaiseMore
import KE.KExcSuper
import HandS.ExcInit
import HandS.ExcIs
import KE.KExcIs
import KE.KNest
import HandS.EndTab
import HandS.OwnEq
import KE.KCallOwn
import PyProof.InstNe
import HandS.Conv
import PyProof.ListRange
import HandS.Steps
import PyProof.Rows.ReprOcc
import HandS.Text
import KE.KIntText
import HandS.Defaults
import KE.IntTextLaws
import PyProof.StrBlock2
import KE.KStateDown
import HandS.Head0
import HandS.Head1
import HandS.Head2
import HandS.HeadEnd
import HandS.HeadHook1
import HandS.HeadHook2
import HandS.HeadHook4
import PySem.Challenge.RW_remadedays_k20_ties_written_and_read
set_option Elab.async false
set_option linter.all false
set_option maxRecDepth 100000
set_option maxHeartbeats 4000000
namespace DL
open PySem PySem.Spec PyProof.Rows L2

/-- data: what a value is, with all that hangs on it, addresses left out -/
inductive D where
  | non | bl (b : Bool) | int (i : Int) | str (x : Str) | ref (a : Addr) | ty (n : String)
  | lst (xs : List D) | tup (xs : List D) | klst (xs : List D) | ktup (xs : List D) | dct (kvs : List (Key × D)) | ins (C : Addr) (fs : List (Str × D)) | exc (C : Addr) (fs : List (Str × D))

/-- a list or tuple of the written part -/
def KwL (K : PySem.W.Frag) (a : Addr) (xs : List V) : Prop :=
  ∃ (o : Obj) (its : Array Value) (n : Nat), K.lookup a = some o ∧ o.cls = .type "list" ∧ o.dict = none ∧ o.data = .seq its n ∧ its.size ≤ sizeLine ∧ Vals xs its.toList
def KwT (K : PySem.W.Frag) (a : Addr) (xs : List V) : Prop :=
  ∃ (o : Obj) (its : Array Value) (n : Nat), K.lookup a = some o ∧ o.cls = .type "tuple" ∧ o.data = .seq its n ∧ its.size ≤ sizeLine ∧ Vals xs its.toList

/-- a caught exception of the class at C, its dict at dd -/
def excH (a C dd : Addr) : HO := .ext fun h => ∃ (oe : Obj) (vs : Array Value), h.get? a = some oe ∧ oe.cls = .ref C ∧ oe.dict = some dd ∧ oe.data = .fields vs
section
variable (K : PySem.W.Frag) (N : Addr → Prop) (H : Hp)
mutual
def Rep : D → V → Prop
  | .non, v => v = .non
  | .bl b, v => v = .bl b
  | .int i, v => v = .int i
  | .str x, v => v = .str x
  | .ref a, v => v = .ref a
  | .ty n, v => v = .ty n
  | .lst ds, v => ∃ a xs, v = .ref a ∧ ¬ N a ∧ H a = some (.lst xs) ∧ Reps ds xs
  | .tup ds, v => ∃ a xs, v = .ref a ∧ ¬ N a ∧ H a = some (.tup xs) ∧ Reps ds xs
  | .klst ds, v => ∃ a xs, v = .ref a ∧ ((¬ N a ∧ Rd H a (.lst xs)) ∨ KwL K a xs) ∧ Reps ds xs
  | .ktup ds, v => ∃ a xs, v = .ref a ∧ ((¬ N a ∧ Rd H a (.tup xs)) ∨ KwT K a xs) ∧ Reps ds xs
  | .dct kvs, v => ∃ a ws, v = .ref a ∧ ¬ N a ∧ H a = some (.dK ws) ∧ RepK kvs ws
  | .ins C fs, v => ∃ a dx gs, v = .ref a ∧ ¬ N a ∧ H a = some (.ins C dx gs) ∧ RepF fs gs
  | .exc C fs, v => ∃ a dd gs, v = .ref a ∧ ¬ N a ∧ H a = some (excH a C dd) ∧ ¬ N dd ∧ H dd = some (.xd gs) ∧ RepF fs gs
def Reps : List D → List V → Prop
  | [], xs => xs = []
  | d :: ds, xs => ∃ x r, xs = x :: r ∧ Rep d x ∧ Reps ds r
def RepK : List (Key × D) → List (Key × V) → Prop
  | [], xs => xs = []
  | (k, d) :: ds, xs => ∃ x r, xs = (k, x) :: r ∧ Rep d x ∧ RepK ds r
def RepF : List (Str × D) → List (Str × V) → Prop
  | [], xs => xs = []
  | (k, d) :: ds, xs => ∃ x r, xs = (k, x) :: r ∧ Rep d x ∧ RepF ds r
end
end

/-- what is owned: it may change -/
inductive OD where
  | lst (xs : List D) | dct (kvs : List (Key × D)) | ins (C : Addr) (fs : List (Str × D)) | box (P : List D → Prop) | tab (q : Str)
abbrev Own := List (Addr × OD)
abbrev Own.has (O : Own) : Addr → Prop := fun a => a ∈ O.map (·.1)

def RepO (K : PySem.W.Frag) (N : Addr → Prop) (H : Hp) (a : Addr) : OD → Prop
  | .lst ds => ∃ xs, H a = some (.lst xs) ∧ Reps K N H ds xs
  | .dct kvs => ∃ ws, H a = some (.dK ws) ∧ RepK K N H kvs ws
  | .ins C fs => ∃ dx gs, H a = some (.ins C dx gs) ∧ RepF K N H fs gs
  | .box P => ∃ ds xs, P ds ∧ H a = some (.lst xs) ∧ Reps K N H ds xs
  | .tab q => ∃ ps : Array Value, H a = some (.tbl ps) ∧ TriplesOk ps.toList ∧ ∀ (pos : Pos) (cv : Value), codeAmong pos ps.toList = some cv → ∃ c, cv = .ref c ∧ ¬ N c ∧ H c = some (LamX.CodeO c q)

structure OwnOk (K : PySem.W.Frag) (O : Own) (H : Hp) : Prop where
  nd : (O.map (·.1)).Nodup
  at_ : ∀ a od, (a, od) ∈ O → RepO K O.has H a od

/-- what is not owned stays; what is newly owned is new -/
structure Le (O : Own) (H : Hp) (O' : Own) (H' : Hp) : Prop where
  keep : ∀ a o, H a = some o → ¬ O.has a → H' a = some o
  new : ∀ a, O'.has a → O.has a ∨ H a = none

theorem Le.refl (O : Own) (H : Hp) : Le O H O H := ⟨fun _ _ e _ => e, fun _ h => .inl h⟩
theorem Le.trans {O O1 O2 : Own} {H H1 H2 : Hp} (a : Le O H O1 H1) (b : Le O1 H1 O2 H2) : Le O H O2 H2 := by
  refine ⟨fun x o e n => ?_, fun x h => ?_⟩
  · have e1 := a.keep x o e n
    refine b.keep x o e1 fun h => ?_
    rcases a.new x h with h | h
    · exact n h
    · rw [e] at h; cases h
  · rcases b.new x h with h | h
    · exact a.new x h
    · by_cases hx : O.has x
      · exact .inl hx
      · cases e : H x with
        | none => exact .inr rfl
        | some o => rw [a.keep x o e hx] at h; cases h

section
variable {K : PySem.W.Frag} {O O' : Own} {H H' : Hp}
theorem Le.not {a : Addr} {o : HO} (l : Le O H O' H') (e : H a = some o) (n : ¬ O.has a) : ¬ O'.has a := fun h => by
  rcases l.new a h with h | h
  · exact n h
  · rw [e] at h; cases h
theorem Rd.le {a : Addr} {u : HO} (l : Le O H O' H') (n : ¬ O.has a) (r : Rd H a u) : ¬ O'.has a ∧ Rd H' a u := by
  rcases r with r | ⟨o, r⟩
  · exact ⟨l.not r n, .inl (l.keep _ _ r n)⟩
  · exact ⟨l.not r n, .inr ⟨o, l.keep _ _ r n⟩⟩
mutual
theorem Rep.le (l : Le O H O' H') : ∀ {d : D} {v : V}, Rep K O.has H d v → Rep K O'.has H' d v
  | .non, _, h => by simpa [Rep] using h
  | .bl _, _, h => by simpa [Rep] using h
  | .int _, _, h => by simpa [Rep] using h
  | .str _, _, h => by simpa [Rep] using h
  | .ref _, _, h => by simpa [Rep] using h
  | .ty _, _, h => by simpa [Rep] using h
  | .lst ds, v, h => by
    simp only [Rep] at h ⊢
    obtain ⟨a, xs, rfl, n, e, r⟩ := h
    exact ⟨a, xs, rfl, l.not e n, l.keep _ _ e n, Reps.le l r⟩
  | .tup ds, v, h => by
    simp only [Rep] at h ⊢
    obtain ⟨a, xs, rfl, n, e, r⟩ := h
    exact ⟨a, xs, rfl, l.not e n, l.keep _ _ e n, Reps.le l r⟩
  | .klst ds, v, h => by
    simp only [Rep] at h ⊢
    obtain ⟨a, xs, rfl, h | h, r⟩ := h
    · exact ⟨a, xs, rfl, .inl (Rd.le l h.1 h.2), Reps.le l r⟩
    · exact ⟨a, xs, rfl, .inr h, Reps.le l r⟩
  | .ktup ds, v, h => by
    simp only [Rep] at h ⊢
    obtain ⟨a, xs, rfl, h | h, r⟩ := h
    · exact ⟨a, xs, rfl, .inl (Rd.le l h.1 h.2), Reps.le l r⟩
    · exact ⟨a, xs, rfl, .inr h, Reps.le l r⟩
  | .dct kvs, v, h => by
    simp only [Rep] at h ⊢
    obtain ⟨a, xs, rfl, n, e, r⟩ := h
    exact ⟨a, xs, rfl, l.not e n, l.keep _ _ e n, RepK.le l r⟩
  | .ins C fs, v, h => by
    simp only [Rep] at h ⊢
    obtain ⟨a, dx, gs, rfl, n, e, r⟩ := h
    exact ⟨a, dx, gs, rfl, l.not e n, l.keep _ _ e n, RepF.le l r⟩
  | .exc C fs, v, h => by
    simp only [Rep] at h ⊢
    obtain ⟨a, dd, gs, rfl, n, e, n2, e2, r⟩ := h
    exact ⟨a, dd, gs, rfl, l.not e n, l.keep _ _ e n, l.not e2 n2, l.keep _ _ e2 n2, RepF.le l r⟩
theorem Reps.le (l : Le O H O' H') : ∀ {ds : List D} {xs : List V}, Reps K O.has H ds xs → Reps K O'.has H' ds xs
  | [], _, h => by simpa [Reps] using h
  | d :: ds, _, h => by
    simp only [Reps] at h ⊢
    obtain ⟨x, r, rfl, a, b⟩ := h
    exact ⟨x, r, rfl, Rep.le l a, Reps.le l b⟩
theorem RepK.le (l : Le O H O' H') : ∀ {ds : List (Key × D)} {xs : List (Key × V)}, RepK K O.has H ds xs → RepK K O'.has H' ds xs
  | [], _, h => by simpa [RepK] using h
  | (k, d) :: ds, _, h => by
    simp only [RepK] at h ⊢
    obtain ⟨x, r, rfl, a, b⟩ := h
    exact ⟨x, r, rfl, Rep.le l a, RepK.le l b⟩
theorem RepF.le (l : Le O H O' H') : ∀ {ds : List (Str × D)} {xs : List (Str × V)}, RepF K O.has H ds xs → RepF K O'.has H' ds xs
  | [], _, h => by simpa [RepF] using h
  | (k, d) :: ds, _, h => by
    simp only [RepF] at h ⊢
    obtain ⟨x, r, rfl, a, b⟩ := h
    exact ⟨x, r, rfl, Rep.le l a, RepF.le l b⟩
end
/-- nothing owned changes -/
theorem Le.new_obj {p : Addr} {o : HO} (O : Own) (hp : H p = none) : Le O H O (upd H p o) :=
  ⟨fun a u e _ => by rw [upd_ne (ne_of_none e hp)]; exact e, fun _ h => .inl h⟩
end
end DL
namespace DL
open PySem PySem.Spec PyProof.Rows L2

abbrev St := L2.St
/-- an exception: its class, its own fields -/
structure Exn where
  cls : Addr
  fs : List (Str × D)
def RepX (K : PySem.W.Frag) (O : Own) (H : Hp) (x : Exn) (cls : Value) (d : Option Addr) : Prop :=
  cls = .ref x.cls ∧ ((x.fs = [] ∧ d = none) ∨ ∃ dd gs, d = some dd ∧ ¬ O.has dd ∧ H dd = some (.xd gs) ∧ RepF K O.has H x.fs gs)

abbrev En := List (Str × Option D)
def RepSl (K : PySem.W.Frag) (N : Addr → Prop) (H : Hp) : En → St → Prop
  | [], σ => σ = []
  | (_, none) :: Γ, σ => ∃ o r, σ = o :: r ∧ RepSl K N H Γ r
  | (_, some d) :: Γ, σ => ∃ v r, σ = some v :: r ∧ Rep K N H d v ∧ RepSl K N H Γ r

/-- the module behind its top -/
structure Md where
  P : Program
  w : World
  K : PySem.W.Frag
  mg : Str → Option Value
  base : Heap
/-- what is fixed for a body -/
structure CD where
  M : Md
  k : Nat
  /-- the scope; the names of the body, those that are seen, that are stored, the global ones -/
  sc : Scope
  N : List Str
  Vs : List Str
  Ls : List Str
  Gs : List Str
  /-- the state that exceptions and returns are told from -/
  O0 : Own
  H0 : Hp
  /-- what is wanted of an exception -/
  ED : Exn → En → Own → Prop
  /-- a def's own body; where its lambdas' code objects are noted -/
  top : Bool := false
  lam : Option (Addr × Addr × Str) := none

structure Sat (C : CD) (Γ : En) (O : Own) (σ : St) (H : Hp) : Prop where
  nm : Γ.map (·.1) = C.N
  sl : RepSl C.M.K O.has H Γ σ
  own : OwnOk C.M.K O H
  le : Le C.O0 C.H0 O H

structure Ok (C : CD) (X : Cx) : Prop where
  prog : X.prog = C.M.P
  w : X.w = C.M.w
  K : X.K = C.M.K
  mg : X.mg = C.M.mg
  base : X.base = C.M.base
  N : X.N = C.N
  nd : C.N.Nodup
  sc : X.env.scope = C.sc
  vis : ∀ x ∈ C.Vs, Vis X.env.scope x ∧ (x == ("__debug__" : Str)) = false ∧ (x == ("__classdict__" : Str)) = false
  loc : ∀ x ∈ C.Ls, Loc X.env.scope x ∧ (X.fn x = true ∨ X.env.scope.names.lookup x = some .local)
  gl : ∀ x ∈ C.Gs, Gl X x ∧ (x == ("__debug__" : Str)) = false
  calm : X.calm = true
  room : Room C.k X.A
  grd : X.A.guards = some []
  thr : ∀ (σ : St) (EK : XK), (∀ cls d H, EK cls d H → ∃ x Γ O, C.ED x Γ O ∧ Sat C Γ O σ H ∧ RepX C.M.K O H x cls d) → PassesAt (L2.CX X.prog X.w) X σ EK
  own : PassesOwn (model X.prog X.w) X.A X.env X.xe
  tk : Takes X fun cls d σ H => ∃ x Γ O, C.ED x Γ O ∧ Sat C Γ O σ H ∧ RepX C.M.K O H x cls d
  stk : C.top = true → X.stack = X.env :: X.outer ∧ X.env.frame = some X.env.locals ∧ X.ex = []
  lm : ∀ c P q, C.lam = some (c, P, q) → X.env.code = .ref c ∧ X.env.qual = q ∧ LamX.TabB C.M.base C.M.mg c P

section
variable {K : PySem.W.Frag} {O O' : Own} {H H' : Hp}
theorem RepSl.le (l : Le O H O' H') : ∀ {Γ : En} {σ : St}, RepSl K O.has H Γ σ → RepSl K O'.has H' Γ σ
  | [], _, h => by simpa [RepSl] using h
  | (_, none) :: Γ, _, h => by
    simp only [RepSl] at h ⊢
    obtain ⟨o, r, rfl, h⟩ := h
    exact ⟨o, r, rfl, RepSl.le l h⟩
  | (_, some d) :: Γ, _, h => by
    simp only [RepSl] at h ⊢
    obtain ⟨v, r, rfl, a, h⟩ := h
    exact ⟨v, r, rfl, Rep.le l a, RepSl.le l h⟩
/-- behind a step -/
theorem Sat.step {C : CD} {Γ : En} {σ : St} (S : Sat C Γ O σ H) (l : Le O H O' H') (o : OwnOk C.M.K O' H') : Sat C Γ O' σ H' :=
  ⟨S.nm, RepSl.le l S.sl, o, S.le.trans l⟩
end

/-! ### weakest demands on the machine -/
def EW (X : Cx) (e : Expr) (σ : St) (H : Hp) (Q : VK) : Prop :=
  ∀ (pins : List (Addr × Obj)) (s : Shared), Inv X pins σ H s → wpAny (model X.prog X.w) X.A (eval e X.env) (EP X pins σ Q) X.xe s
def TW (X : Cx) (e : Expr) (σ : St) (H : Hp) (Q : Bool → Hp → Prop) : Prop :=
  ∀ (pins : List (Addr × Obj)) (s : Shared), Inv X pins σ H s → wpAny (model X.prog X.w) X.A (isTrue e X.env (eval e X.env)) (TP X pins σ Q) X.xe s
/-- a test whatever its whole is -/
def UW (X : Cx) (e : Expr) (σ : St) (H : Hp) (Q : Bool → Hp → Prop) : Prop :=
  ∀ (whole : Sem Value) (pins : List (Addr × Obj)) (s : Shared), Inv X pins σ H s → wpAny (model X.prog X.w) X.A (isTrue e X.env whole) (TP X pins σ Q) X.xe s
def AW (X : Cx) (es : List Expr) (σ : St) (H : Hp) (Q : List V → Hp → Prop) : Prop :=
  ∀ (pos : Pos) (pins : List (Addr × Obj)) (s : Shared), Inv X pins σ H s → wpAny (model X.prog X.w) X.A (spliced (backTo pos (starEach es X.env))) (AP X pins σ Q) X.xe s
def KW (X : Cx) (kws : List Keyword) (σ : St) (H : Hp) (Q : List V → Hp → Prop) : Prop :=
  ∀ (pos : Pos) (pins : List (Addr × Obj)) (s : Shared), Inv X pins σ H s → wpAny (model X.prog X.w) X.A (evalAll ((backToKw pos (keywordEach kws X.env)).map (·.2))) (AP X pins σ Q) X.xe s
def SW (X : Cx) (st : Stmt) (D : Ends) (σ : St) (H : Hp) : Prop :=
  ∀ (pins : List (Addr × Obj)) (s : Shared), Inv X pins σ H s → wpAny (model X.prog X.w) X.A (exec st X.env) (SP X pins D) X.xe s
def SWs (X : Cx) (sts : List Stmt) (D : Ends) (σ : St) (H : Hp) : Prop :=
  ∀ (pins : List (Addr × Obj)) (s : Shared), Inv X pins σ H s → wpAny (model X.prog X.w) X.A (execs sts X.env) (SP X pins D) X.xe s
theorem pe_ew {X : Cx} {e : Expr} : PE X e (EW X e) := ⟨fun pins s _ _ _ I h => h pins s I⟩
theorem pt_tw {X : Cx} {e : Expr} : PT X e (TW X e) := ⟨fun pins s _ _ _ I h => h pins s I⟩
theorem pw_uw {X : Cx} {e : Expr} : PW X e (UW X e) := ⟨fun wh pins s _ _ _ I h => h wh pins s I⟩
theorem pa_aw {X : Cx} {es : List Expr} : PA X es (AW X es) := ⟨fun pos pins s _ _ _ I h => h pos pins s I⟩
theorem pk_kw {X : Cx} {es : List Keyword} : PK X es (KW X es) := ⟨fun pos pins s _ _ _ I h => h pos pins s I⟩
theorem ps_sw {X : Cx} {st : Stmt} : PS X st (SW X st) := ⟨fun pins s _ _ _ I h => h pins s I⟩
theorem pss_sws {X : Cx} {st : List Stmt} : PSs X st (SWs X st) := ⟨fun pins s _ _ _ I h => h pins s I⟩
theorem ew_of {X : Cx} {e : Expr} {t : TE} {σ : St} {H : Hp} {Q : VK} (p : PE X e t) (h : t σ H Q) : EW X e σ H Q := fun pins s I => p.run pins s σ H Q I h
theorem tw_of {X : Cx} {e : Expr} {t : TT} {σ : St} {H : Hp} {Q : Bool → Hp → Prop} (p : PT X e t) (h : t σ H Q) : TW X e σ H Q := fun pins s I => p.run pins s σ H Q I h
theorem uw_of {X : Cx} {e : Expr} {t : TT} {σ : St} {H : Hp} {Q : Bool → Hp → Prop} (p : PW X e t) (h : t σ H Q) : UW X e σ H Q := fun wh pins s I => p.run wh pins s σ H Q I h
theorem aw_of {X : Cx} {es : List Expr} {t : TA} {σ : St} {H : Hp} {Q : List V → Hp → Prop} (p : PA X es t) (h : t σ H Q) : AW X es σ H Q := fun pos pins s I => p.run pos pins s σ H Q I h
theorem kw_of {X : Cx} {es : List Keyword} {t : TA} {σ : St} {H : Hp} {Q : List V → Hp → Prop} (p : PK X es t) (h : t σ H Q) : KW X es σ H Q := fun pos pins s I => p.run pos pins s σ H Q I h
theorem sw_of {X : Cx} {st : Stmt} {t : TS} {D : Ends} {σ : St} {H : Hp} (p : PS X st t) (h : t D σ H) : SW X st D σ H := fun pins s I => p.run pins s σ H D I h
theorem sws_of {X : Cx} {st : List Stmt} {t : TS} {D : Ends} {σ : St} {H : Hp} (p : PSs X st t) (h : t D σ H) : SWs X st D σ H := fun pins s I => p.run pins s σ H D I h

/-! ### the judgements over data -/
/-- a value's continuation is kept by the demand Q over data -/
def KV_ (C : CD) (Γ : En) (O : Own) (σ : St) (H : Hp) (Q : D → Own → Prop) (k : VK) : Prop :=
  ∀ v H' d O', Q d O' → Sat C Γ O' σ H' → Le O H O' H' → Rep C.M.K O'.has H' d v → k v H'
structure WE (C : CD) (X : Cx) (e : Expr) (Γ : En) (O : Own) (Q : D → Own → Prop) : Prop where
  run :
    Ok C X → ∀ σ H, Sat C Γ O σ H → ∀ k : VK, KV_ C Γ O σ H Q k → EW X e σ H k
instance {C : CD} {X : Cx} {e : Expr} {Γ : En} {O : Own} {Q : D → Own → Prop} : CoeFun (WE C X e Γ O Q) (fun _ =>
  Ok C X → ∀ σ H, Sat C Γ O σ H → ∀ k : VK, KV_ C Γ O σ H Q k → EW X e σ H k) := ⟨WE.run⟩
structure WT (C : CD) (X : Cx) (e : Expr) (Γ : En) (O : Own) (Q : Bool → Own → Prop) : Prop where
  run :
    Ok C X → ∀ σ H, Sat C Γ O σ H → ∀ k : Bool → Hp → Prop, (∀ b H' O', Q b O' → Sat C Γ O' σ H' → Le O H O' H' → k b H') → TW X e σ H k
instance {C : CD} {X : Cx} {e : Expr} {Γ : En} {O : Own} {Q : Bool → Own → Prop} : CoeFun (WT C X e Γ O Q) (fun _ =>
  Ok C X → ∀ σ H, Sat C Γ O σ H → ∀ k : Bool → Hp → Prop, (∀ b H' O', Q b O' → Sat C Γ O' σ H' → Le O H O' H' → k b H') → TW X e σ H k) := ⟨WT.run⟩
structure WU (C : CD) (X : Cx) (e : Expr) (Γ : En) (O : Own) (Q : Bool → Own → Prop) : Prop where
  run :
    Ok C X → ∀ σ H, Sat C Γ O σ H → ∀ k : Bool → Hp → Prop, (∀ b H' O', Q b O' → Sat C Γ O' σ H' → Le O H O' H' → k b H') → UW X e σ H k
instance {C : CD} {X : Cx} {e : Expr} {Γ : En} {O : Own} {Q : Bool → Own → Prop} : CoeFun (WU C X e Γ O Q) (fun _ =>
  Ok C X → ∀ σ H, Sat C Γ O σ H → ∀ k : Bool → Hp → Prop, (∀ b H' O', Q b O' → Sat C Γ O' σ H' → Le O H O' H' → k b H') → UW X e σ H k) := ⟨WU.run⟩
structure WA (C : CD) (X : Cx) (es : List Expr) (Γ : En) (O : Own) (Q : List D → Own → Prop) : Prop where
  run :
    Ok C X → ∀ σ H, Sat C Γ O σ H → ∀ k : List V → Hp → Prop, (∀ vs H' ds O', Q ds O' → Sat C Γ O' σ H' → Le O H O' H' → Reps C.M.K O'.has H' ds vs → k vs H') → AW X es σ H k
instance {C : CD} {X : Cx} {es : List Expr} {Γ : En} {O : Own} {Q : List D → Own → Prop} : CoeFun (WA C X es Γ O Q) (fun _ =>
  Ok C X → ∀ σ H, Sat C Γ O σ H → ∀ k : List V → Hp → Prop, (∀ vs H' ds O', Q ds O' → Sat C Γ O' σ H' → Le O H O' H' → Reps C.M.K O'.has H' ds vs → k vs H') → AW X es σ H k) := ⟨WA.run⟩
structure WK (C : CD) (X : Cx) (es : List Keyword) (Γ : En) (O : Own) (Q : List D → Own → Prop) : Prop where
  run :
    Ok C X → ∀ σ H, Sat C Γ O σ H → ∀ k : List V → Hp → Prop, (∀ vs H' ds O', Q ds O' → Sat C Γ O' σ H' → Le O H O' H' → Reps C.M.K O'.has H' ds vs → k vs H') → KW X es σ H k
instance {C : CD} {X : Cx} {es : List Keyword} {Γ : En} {O : Own} {Q : List D → Own → Prop} : CoeFun (WK C X es Γ O Q) (fun _ =>
  Ok C X → ∀ σ H, Sat C Γ O σ H → ∀ k : List V → Hp → Prop, (∀ vs H' ds O', Q ds O' → Sat C Γ O' σ H' → Le O H O' H' → Reps C.M.K O'.has H' ds vs → k vs H') → KW X es σ H k) := ⟨WK.run⟩
/-- what is wanted behind a statement, over data -/
structure De where
  nx : En → Own → Prop
  rt : D → Own → Prop
  bk : En → Own → Prop := fun _ _ => False
  ct : En → Own → Prop := fun _ _ => False
structure EndsOk (C : CD) (N : De) (D : Ends) : Prop where
  nx : ∀ σ H Γ O, N.nx Γ O → Sat C Γ O σ H → D.nx σ H
  rt : ∀ v H d O, N.rt d O → OwnOk C.M.K O H → Le C.O0 C.H0 O H → Rep C.M.K O.has H d v → D.rt v H
  bk : ∀ σ H Γ O, N.bk Γ O → Sat C Γ O σ H → D.bk σ H
  ct : ∀ σ H Γ O, N.ct Γ O → Sat C Γ O σ H → D.ct σ H
structure WS (C : CD) (X : Cx) (st : Stmt) (Γ : En) (O : Own) (N : De) : Prop where
  run :
    Ok C X → ∀ σ H, Sat C Γ O σ H → ∀ D, EndsOk C N D → SW X st D σ H
instance {C : CD} {X : Cx} {st : Stmt} {Γ : En} {O : Own} {N : De} : CoeFun (WS C X st Γ O N) (fun _ =>
  Ok C X → ∀ σ H, Sat C Γ O σ H → ∀ D, EndsOk C N D → SW X st D σ H) := ⟨WS.run⟩
structure WSs (C : CD) (X : Cx) (sts : List Stmt) (Γ : En) (O : Own) (N : De) : Prop where
  run :
    Ok C X → ∀ σ H, Sat C Γ O σ H → ∀ D, EndsOk C N D → SWs X sts D σ H
instance {C : CD} {X : Cx} {sts : List Stmt} {Γ : En} {O : Own} {N : De} : CoeFun (WSs C X sts Γ O N) (fun _ =>
  Ok C X → ∀ σ H, Sat C Γ O σ H → ∀ D, EndsOk C N D → SWs X sts D σ H) := ⟨WSs.run⟩
/-- a two-place operation, a one-place one, on values -/
structure OW (C : CD) (X : Cx) (f : Value → Value → Sem Value) (x y : D) (Γ : En) (O : Own) (Q : D → Own → Prop) : Prop where
  run :
    Ok C X → ∀ σ H, Sat C Γ O σ H → ∀ v w, Rep C.M.K O.has H x v → Rep C.M.K O.has H y w → ∀ k : VK, KV_ C Γ O σ H Q k →
      ∀ (pins : List (Addr × Obj)) (s : Shared) (v' w' : Value), Inv X pins σ H s → RelV v v' → RelV w w' → wpAny (model X.prog X.w) X.A (f v' w') (EP X pins σ k) X.xe s
instance {C : CD} {X : Cx} {f : Value → Value → Sem Value} {x y : D} {Γ : En} {O : Own} {Q : D → Own → Prop} : CoeFun (OW C X f x y Γ O Q) (fun _ =>
  Ok C X → ∀ σ H, Sat C Γ O σ H → ∀ v w, Rep C.M.K O.has H x v → Rep C.M.K O.has H y w → ∀ k : VK, KV_ C Γ O σ H Q k →
    ∀ (pins : List (Addr × Obj)) (s : Shared) (v' w' : Value), Inv X pins σ H s → RelV v v' → RelV w w' → wpAny (model X.prog X.w) X.A (f v' w') (EP X pins σ k) X.xe s) := ⟨OW.run⟩
structure NW (C : CD) (X : Cx) (f : Value → Sem Value) (x : D) (Γ : En) (O : Own) (Q : D → Own → Prop) : Prop where
  run :
    Ok C X → ∀ σ H, Sat C Γ O σ H → ∀ v, Rep C.M.K O.has H x v → ∀ k : VK, KV_ C Γ O σ H Q k →
      ∀ (pins : List (Addr × Obj)) (s : Shared) (v' : Value), Inv X pins σ H s → RelV v v' → wpAny (model X.prog X.w) X.A (f v') (EP X pins σ k) X.xe s
instance {C : CD} {X : Cx} {f : Value → Sem Value} {x : D} {Γ : En} {O : Own} {Q : D → Own → Prop} : CoeFun (NW C X f x Γ O Q) (fun _ =>
  Ok C X → ∀ σ H, Sat C Γ O σ H → ∀ v, Rep C.M.K O.has H x v → ∀ k : VK, KV_ C Γ O σ H Q k →
    ∀ (pins : List (Addr × Obj)) (s : Shared) (v' : Value), Inv X pins σ H s → RelV v v' → wpAny (model X.prog X.w) X.A (f v') (EP X pins σ k) X.xe s) := ⟨NW.run⟩
/-- a value's truth -/
structure RW_ (C : CD) (X : Cx) (x : D) (Γ : En) (O : Own) (Q : Bool → Own → Prop) : Prop where
  run :
    Ok C X → ∀ σ H, Sat C Γ O σ H → ∀ v, Rep C.M.K O.has H x v → ∀ k : Bool → Hp → Prop, (∀ b H' O', Q b O' → Sat C Γ O' σ H' → Le O H O' H' → k b H') →
      ∀ (pins : List (Addr × Obj)) (s : Shared) (v' : Value), Inv X pins σ H s → RelV v v' → wpAny (model X.prog X.w) X.A (truthy v') (TP X pins σ k) X.xe s
instance {C : CD} {X : Cx} {x : D} {Γ : En} {O : Own} {Q : Bool → Own → Prop} : CoeFun (RW_ C X x Γ O Q) (fun _ =>
  Ok C X → ∀ σ H, Sat C Γ O σ H → ∀ v, Rep C.M.K O.has H x v → ∀ k : Bool → Hp → Prop, (∀ b H' O', Q b O' → Sat C Γ O' σ H' → Le O H O' H' → k b H') →
    ∀ (pins : List (Addr × Obj)) (s : Shared) (v' : Value), Inv X pins σ H s → RelV v v' → wpAny (model X.prog X.w) X.A (truthy v') (TP X pins σ k) X.xe s) := ⟨RW_.run⟩
/-- a call of a value with values -/
structure CW (C : CD) (X : Cx) (f : D) (ds : List D) (Γ : En) (O : Own) (Q : D → Own → Prop) : Prop where
  run :
    Ok C X → ∀ σ H, Sat C Γ O σ H → ∀ fv, Rep C.M.K O.has H f fv → ∀ vs, Reps C.M.K O.has H ds vs → ∀ k : VK, KV_ C Γ O σ H Q k →
      ∀ (pins : List (Addr × Obj)) (s : Shared) (f' : Value) (us : List Value), Inv X pins σ H s → RelV fv f' → Vals vs us → wpAny (model X.prog X.w) X.A (call f' us) (EP X pins σ k) X.xe s
instance {C : CD} {X : Cx} {f : D} {ds : List D} {Γ : En} {O : Own} {Q : D → Own → Prop} : CoeFun (CW C X f ds Γ O Q) (fun _ =>
  Ok C X → ∀ σ H, Sat C Γ O σ H → ∀ fv, Rep C.M.K O.has H f fv → ∀ vs, Reps C.M.K O.has H ds vs → ∀ k : VK, KV_ C Γ O σ H Q k →
    ∀ (pins : List (Addr × Obj)) (s : Shared) (f' : Value) (us : List Value), Inv X pins σ H s → RelV fv f' → Vals vs us → wpAny (model X.prog X.w) X.A (call f' us) (EP X pins σ k) X.xe s) := ⟨CW.run⟩

/-! ### the environment -/
inductive At : En → Str → D → Prop
  | here {x : Str} {d : D} {Γ : En} : At ((x, some d) :: Γ) x d
  | there {x : Str} {d : D} {p : Str × Option D} {Γ : En} : At Γ x d → At (p :: Γ) x d
inductive Up : En → Str → Option D → En → Prop
  | here {x : Str} {d : Option D} {o : Option D} {Γ : En} : Up ((x, o) :: Γ) x d ((x, d) :: Γ)
  | there {x : Str} {d : Option D} {p : Str × Option D} {Γ Γ' : En} : Up Γ x d Γ' → Up (p :: Γ) x d (p :: Γ')
theorem At.get {K : PySem.W.Frag} {N : Addr → Prop} {H : Hp} : ∀ {Γ : En} {x : Str} {d : D} {σ : St}, At Γ x d → RepSl K N H Γ σ → ∃ (i : Nat) (v : V), (Γ.map (·.1))[i]? = some x ∧ σ[i]? = some (some v) ∧ Rep K N H d v
  | _, _, _, _, .here, h => by
    simp only [RepSl] at h
    obtain ⟨v, r, rfl, a, _⟩ := h
    exact ⟨0, v, by simp, by simp, a⟩
  | (y, o) :: Γ, x, d, σ, .there a, h => by
    cases o with
    | none =>
      simp only [RepSl] at h
      obtain ⟨o, r, rfl, h⟩ := h
      obtain ⟨i, v, h1, h2, h3⟩ := At.get a h
      exact ⟨i + 1, v, by simpa using h1, by simpa using h2, h3⟩
    | some e =>
      simp only [RepSl] at h
      obtain ⟨o, r, rfl, _, h⟩ := h
      obtain ⟨i, v, h1, h2, h3⟩ := At.get a h
      exact ⟨i + 1, v, by simpa using h1, by simpa using h2, h3⟩
theorem Up.nm : ∀ {Γ Γ' : En} {x : Str} {d : Option D}, Up Γ x d Γ' → Γ'.map (·.1) = Γ.map (·.1)
  | _, _, _, _, .here => rfl
  | _, _, _, _, .there u => by simp [Up.nm u]
theorem Up.mem : ∀ {Γ Γ' : En} {x : Str} {d : Option D}, Up Γ x d Γ' → ∃ i : Nat, (Γ.map (·.1))[i]? = some x
  | _, _, _, _, .here => ⟨0, rfl⟩
  | _, _, _, _, .there u => let ⟨i, h⟩ := Up.mem u; ⟨i + 1, by simpa using h⟩
theorem Up.set {K : PySem.W.Frag} {N : Addr → Prop} {H : Hp} {v : V} : ∀ {Γ Γ' : En} {x : Str} {d : D} {σ : St}, Up Γ x (some d) Γ' → RepSl K N H Γ σ → Rep K N H d v →
    ∃ i : Nat, (Γ.map (·.1))[i]? = some x ∧ RepSl K N H Γ' (σ.set i (some v))
  | (y, o) :: Γ, _, _, d, σ, .here, h, r => by
    cases o with
    | none =>
      simp only [RepSl] at h
      obtain ⟨o, q, rfl, h⟩ := h
      exact ⟨0, by simp, by simp only [RepSl, List.set]; exact ⟨v, q, rfl, r, h⟩⟩
    | some e =>
      simp only [RepSl] at h
      obtain ⟨o, q, rfl, _, h⟩ := h
      exact ⟨0, by simp, by simp only [RepSl, List.set]; exact ⟨v, q, rfl, r, h⟩⟩
  | (y, o) :: Γ, _, x, d, σ, .there u, h, r => by
    cases o with
    | none =>
      simp only [RepSl] at h
      obtain ⟨o, q, rfl, h⟩ := h
      obtain ⟨i, h1, h2⟩ := Up.set u h r
      exact ⟨i + 1, by simpa using h1, by simp only [RepSl, List.set]; exact ⟨o, _, rfl, h2⟩⟩
    | some e =>
      simp only [RepSl] at h
      obtain ⟨o, q, rfl, a, h⟩ := h
      obtain ⟨i, h1, h2⟩ := Up.set u h r
      exact ⟨i + 1, by simpa using h1, by simp only [RepSl, List.set]; exact ⟨o, _, rfl, a, h2⟩⟩

section
variable {C : CD} {X : Cx} {Γ Γ' : En} {O : Own} {Q : D → Own → Prop} {QT : Bool → Own → Prop} {pos : Pos}

/-! ### names, constants -/
theorem we_name {x : Str} {d : D} (hv : x ∈ C.Vs) (a : At Γ x d) (q : Q d O) : WE C X (.Name x pos) Γ O Q := .mk fun ok σ H S k hk => by
  obtain ⟨i, v, h1, h2, h3⟩ := a.get S.sl
  rw [S.nm] at h1
  have hx := ok.vis x hv
  exact ew_of (pe_var (i := i) (by rw [ok.N]; exact h1) hx.1 hx.2.1 hx.2.2) ⟨v, h2, hk v H d O q S (Le.refl _ _) h3⟩
theorem we_int {i : Int} {j : Nat} (q : Q (.int i) O) : WE C X (.Constant (.int i) j pos) Γ O Q := .mk fun ok σ H S k hk => ew_of pe_int (hk _ H _ O q S (Le.refl _ _) (by simp [Rep]))
theorem we_bool {b : Bool} {j : Nat} (q : Q (.bl b) O) : WE C X (.Constant (.bool b) j pos) Γ O Q := .mk fun ok σ H S k hk => ew_of pe_bl (hk _ H _ O q S (Le.refl _ _) (by simp [Rep]))
theorem we_none {j : Nat} (q : Q .non O) : WE C X (.Constant .none j pos) Γ O Q := .mk fun ok σ H S k hk => ew_of pe_non (hk _ H _ O q S (Le.refl _ _) (by simp [Rep]))
theorem we_str {x : Str} {j : Nat} (q : Q (.str x) O) : WE C X (.Constant (.str x) j pos) Γ O Q := .mk fun ok σ H S k hk => ew_of pe_str (hk _ H _ O q S (Le.refl _ _) (by simp [Rep]))
/-- what a name of the module holds -/
inductive Gv (C : CD) : Str → D → Prop
  | int {x : Str} {i : Int} {t : Tok} : C.M.mg x = some (.int i t) → Gv C x (.int i)
  | str {x : Str} {y : Str} {t : Tok} : C.M.mg x = some (.str y t) → Gv C x (.str y)
  | ref {x : Str} {a : Addr} : C.M.mg x = some (.ref a) → Gv C x (.ref a)
  | obj {x : Str} {a : Addr} {d : D} : C.M.mg x = some (.ref a) → (∀ N H, Rep C.M.K N H d (.ref a)) → Gv C x d
  | ty {x : Str} {n : String} : C.M.mg x = none → bootBuiltins x = some (.type n) → x ≠ "__name__" → Gv C x (.ty n)
theorem we_glob {x : Str} {d : D} (g : x ∈ C.Gs) (h : Gv C x d) (q : Q d O) : WE C X (.Name x pos) Γ O Q := .mk fun ok σ H S k hk => by
  have hx := ok.gl x g
  cases h with
  | int h => exact ew_of (pe_glob (v := .int _) hx.1 (by rw [ok.mg]; exact h) ⟨_, rfl⟩ hx.2) (hk _ H _ O q S (Le.refl _ _) (by simp [Rep]))
  | str h => exact ew_of (pe_glob (v := .str _) hx.1 (by rw [ok.mg]; exact h) ⟨_, rfl⟩ hx.2) (hk _ H _ O q S (Le.refl _ _) (by simp [Rep]))
  | ref h => exact ew_of (pe_glob (v := .ref _) hx.1 (by rw [ok.mg]; exact h) rfl hx.2) (hk _ H _ O q S (Le.refl _ _) (by simp [Rep]))
  | obj h r => exact ew_of (pe_glob (v := .ref _) hx.1 (by rw [ok.mg]; exact h) rfl hx.2) (hk _ H _ O q S (Le.refl _ _) (r _ _))
  | ty h1 h2 h3 => exact ew_of (pe_bltn (v := .ty _) hx.1 (by rw [ok.mg]; exact h1) h2 rfl h3 hx.2) (hk _ H _ O q S (Le.refl _ _) (by simp [Rep]))

/-! ### operators -/
variable {a b c : Expr}
theorem two {f : Value → Value → Sem Value} {A B : Sem Value → Prop} (h : WE C X a Γ O fun x O1 => WE C X b Γ O1 fun y O2 => OW C X f x y Γ O2 Q) (ok : Ok C X) {σ : St} {H : Hp} (S : Sat C Γ O σ H) {k : VK} (hk : KV_ C Γ O σ H Q k) {pins : List (Addr × Obj)} {s : Shared} (I : Inv X pins σ H s) :
    wpAny (model X.prog X.w) X.A (eval a X.env) (fun v s₁ => wpAny (model X.prog X.w) X.A (eval b X.env) (fun u s₂ => wpAny (model X.prog X.w) X.A (f v u) (EP X pins σ k) X.xe s₂) X.xe s₁) X.xe s := by
  refine thn (h ok σ H S (fun v H1 => EW X b σ H1 fun w H2 => ∀ (pins : List (Addr × Obj)) (s : Shared) (v' w' : Value), Inv X pins σ H2 s → RelV v v' → RelV w w' → wpAny (model X.prog X.w) X.A (f v' w') (EP X pins σ k) X.xe s) ?_ pins s I) fun v s1 ⟨x, H1, I1, r1, q1⟩ => ?_
  · intro v H1 d O1 q1 S1 l1 r1
    refine q1 ok σ H1 S1 _ fun w H2 e O2 q2 S2 l2 r2 => ?_
    exact q2 ok σ H2 S2 v w (Rep.le l2 r1) r2 k fun z H3 g O3 q3 S3 l3 r3 => hk z H3 g O3 q3 S3 ((l1.trans l2).trans l3) r3
  · exact thn (q1 pins s1 I1) fun u s2 ⟨y, H2, I2, r2, q2⟩ => q2 pins s2 v u I2 r1 r2
theorem we_bin {op : Operator} (h : WE C X a Γ O fun x O1 => WE C X b Γ O1 fun y O2 => OW C X (binaryOp op) x y Γ O2 Q) : WE C X (.BinOp a op b pos) Γ O Q := .mk fun ok σ H S k hk pins s I =>
  wpAny_BinOp (two (A := fun _ => True) (B := fun _ => True) h ok S hk I)
theorem we_cmp {op : CmpOp} (hm : behindInMarks op b = false) (h : WE C X a Γ O fun x O1 => WE C X b Γ O1 fun y O2 => OW C X (compareOp op) x y Γ O2 Q) : WE C X (.Compare a [op] [b] pos) Γ O Q := .mk fun ok σ H S k hk pins s I =>
  wpAny_Compare1 (two (A := fun _ => True) (B := fun _ => True) h ok S hk I) hm
end
end DL
namespace DL
open PySem PySem.Spec PyProof.Rows L2

section
variable {K : PySem.W.Frag} {N : Addr → Prop} {H : Hp} {v : V}
theorem rep_non : Rep K N H .non v ↔ v = .non := by simp [Rep]
theorem rep_bl {b : Bool} : Rep K N H (.bl b) v ↔ v = .bl b := by simp [Rep]
theorem rep_int {i : Int} : Rep K N H (.int i) v ↔ v = .int i := by simp [Rep]
theorem rep_str {i : Str} : Rep K N H (.str i) v ↔ v = .str i := by simp [Rep]
theorem rep_ref {i : Addr} : Rep K N H (.ref i) v ↔ v = .ref i := by simp [Rep]
theorem rep_ty {i : String} : Rep K N H (.ty i) v ↔ v = .ty i := by simp [Rep]
theorem reps_nil {xs : List V} : Reps K N H [] xs ↔ xs = [] := by simp [Reps]
theorem reps_cons {d : D} {ds : List D} {xs : List V} : Reps K N H (d :: ds) xs ↔ ∃ x r, xs = x :: r ∧ Rep K N H d x ∧ Reps K N H ds r := by simp [Reps]
theorem reps_len : ∀ {ds : List D} {xs : List V}, Reps K N H ds xs → xs.length = ds.length
  | [], _, h => by rw [reps_nil] at h; subst h; rfl
  | d :: ds, _, h => by
    rw [reps_cons] at h
    obtain ⟨x, r, rfl, _, h⟩ := h
    simp [reps_len h]
theorem reps_app : ∀ {ds es : List D} {xs ys : List V}, Reps K N H ds xs → Reps K N H es ys → Reps K N H (ds ++ es) (xs ++ ys)
  | [], _, _, _, h, h' => by rw [reps_nil] at h; subst h; exact h'
  | d :: ds, es, _, _, h, h' => by
    rw [reps_cons] at h
    obtain ⟨x, r, rfl, a, h⟩ := h
    show Reps K N H (d :: (ds ++ es)) (x :: (r ++ _))
    rw [reps_cons]
    exact ⟨x, _, rfl, a, reps_app h h'⟩
theorem reps_get : ∀ {ds : List D} {xs : List V} {i : Nat} {d : D}, Reps K N H ds xs → ds[i]? = some d → ∃ x, xs[i]? = some x ∧ Rep K N H d x
  | [], _, _, _, _, e => by simp at e
  | d :: ds, _, i, e, h, he => by
    rw [reps_cons] at h
    obtain ⟨x, r, rfl, a, h⟩ := h
    cases i with
    | zero => simp at he; subst he; exact ⟨x, rfl, a⟩
    | succ i =>
      obtain ⟨y, h1, h2⟩ := reps_get (i := i) h (by simpa using he)
      exact ⟨y, by simpa using h1, h2⟩
theorem reps_get' : ∀ {ds : List D} {xs : List V} {i : Nat} {x : V}, Reps K N H ds xs → xs[i]? = some x → ∃ d, ds[i]? = some d ∧ Rep K N H d x
  | [], _, _, _, h, e => by rw [reps_nil] at h; subst h; simp at e
  | d :: ds, _, i, e, h, he => by
    rw [reps_cons] at h
    obtain ⟨x, r, rfl, a, h⟩ := h
    cases i with
    | zero => simp at he; subst he; exact ⟨d, rfl, a⟩
    | succ i =>
      obtain ⟨y, h1, h2⟩ := reps_get' (i := i) h (by simpa using he)
      exact ⟨y, by simpa using h1, h2⟩
theorem reps_ints : ∀ {ns : List Int} {xs : List V}, Reps K N H (ns.map .int) xs ↔ xs = ns.map .int
  | [], xs => by simp [Reps]
  | n :: ns, xs => by
    rw [List.map_cons, reps_cons]
    constructor
    · rintro ⟨x, r, rfl, a, h⟩
      rw [rep_int] at a
      rw [reps_ints] at h
      subst a; subst h; rfl
    · rintro rfl
      exact ⟨.int n, _, rfl, rep_int.mpr rfl, reps_ints.mpr rfl⟩
end
section
variable {K : PySem.W.Frag} {O O' : Own} {H H' : Hp}
theorem ownOk_new {p : Addr} {o : HO} (w : OwnOk K O H) (hp : H p = none) : OwnOk K O (upd H p o) := by
  have l := Le.new_obj (o := o) O hp
  refine ⟨w.nd, fun a od h => ?_⟩
  have q := w.at_ a od h
  cases od with
  | lst ds =>
    obtain ⟨xs, e, r⟩ := q
    exact ⟨xs, by rw [upd_ne (ne_of_none e hp)]; exact e, Reps.le l r⟩
  | dct ds =>
    obtain ⟨xs, e, r⟩ := q
    exact ⟨xs, by rw [upd_ne (ne_of_none e hp)]; exact e, RepK.le l r⟩
  | ins C ds =>
    obtain ⟨dx, xs, e, r⟩ := q
    exact ⟨dx, xs, by rw [upd_ne (ne_of_none e hp)]; exact e, RepF.le l r⟩
  | box P =>
    obtain ⟨ds, xs, hP, e, r⟩ := q
    exact ⟨ds, xs, hP, by rw [upd_ne (ne_of_none e hp)]; exact e, Reps.le l r⟩
  | tab q0 =>
    obtain ⟨ps, e, t, r⟩ := q
    refine ⟨ps, by rw [upd_ne (ne_of_none e hp)]; exact e, t, fun pos cv hc => ?_⟩
    obtain ⟨c, e1, n, e2⟩ := r pos cv hc
    exact ⟨c, e1, l.not e2 n, l.keep _ _ e2 n⟩
/-- what is owned is there -/
theorem OwnOk.there {a : Addr} (w : OwnOk K O H) (h : O.has a) : H a ≠ none := by
  obtain ⟨⟨a', od⟩, h1, rfl⟩ := List.mem_map.mp h
  have q := w.at_ a' od h1
  intro z
  cases od with
  | lst ds => obtain ⟨xs, e, r⟩ := q; rw [z] at e; cases e
  | dct ds => obtain ⟨xs, e, r⟩ := q; rw [z] at e; cases e
  | ins C ds => obtain ⟨dx, xs, e, r⟩ := q; rw [z] at e; cases e
  | box P => obtain ⟨ds, xs, hP, e, r⟩ := q; rw [z] at e; cases e
  | tab q0 => obtain ⟨ps, e, t, r⟩ := q; rw [z] at e; cases e
theorem OwnOk.nothas {a : Addr} (w : OwnOk K O H) (h : H a = none) : ¬ O.has a := fun z => w.there z h
end

section
variable {C : CD} {X : Cx} {Γ Γ' : En} {O : Own} {Q : D → Own → Prop} {QT : Bool → Own → Prop} {pos : Pos} {a b c : Expr} {σ : St} {H : Hp}
theorem KV_.le {O1 : Own} {H1 : Hp} {k : VK} (h : KV_ C Γ O σ H Q k) (l : Le O H O1 H1) : KV_ C Γ O1 σ H1 Q k := fun v H' d O' q S l' r => h v H' d O' q S (l.trans l') r
theorem KV_.at {k : VK} {v : V} {d : D} (h : KV_ C Γ O σ H Q k) (q : Q d O) (S : Sat C Γ O σ H) (r : Rep C.M.K O.has H d v) : k v H := h v H d O q S (Le.refl _ _) r
/-- a new object that nothing leans on -/
theorem KV_.new {k : VK} {d : D} {p : Addr} {o : HO} (h : KV_ C Γ O σ H Q k) (S : Sat C Γ O σ H) (hp : H p = none) (q : Q d O) (r : Rep C.M.K O.has (upd H p o) d (.ref p)) : k (.ref p) (upd H p o) :=
  h _ _ d O q (S.step (Le.new_obj O hp) (ownOk_new S.own hp)) (Le.new_obj O hp) r

/-! ### and, or, not, if -/
theorem we_one {op : BoolOp} (h : WE C X a Γ O Q) : WE C X (.BoolOp op [a] pos) Γ O Q := .mk fun ok σ H S k hk => ew_of (pe_one pe_ew) (h ok σ H S k hk)
theorem we_and {rest : List Expr} (h : WE C X a Γ O fun x O1 => ∃ c, x = .bl c ∧ (c = true → WE C X (.BoolOp .And (b :: rest) pos) Γ O1 Q) ∧ (c = false → Q (.bl false) O1)) : WE C X (.BoolOp .And (a :: b :: rest) pos) Γ O Q := .mk fun ok σ H S k hk =>
  ew_of (pe_and pe_ew pe_ew) (h ok σ H S _ fun v H1 d O1 q1 S1 l1 r1 => by
    obtain ⟨c, rfl, h1, h2⟩ := q1
    rw [rep_bl] at r1
    refine ⟨c, r1, ?_⟩
    cases c with
    | true => exact h1 rfl ok σ H1 S1 k (hk.le l1)
    | false => exact (hk.le l1).at (h2 rfl) S1 (rep_bl.mpr rfl))
theorem we_or {rest : List Expr} (h : WE C X a Γ O fun x O1 => ∃ c, x = .bl c ∧ (c = false → WE C X (.BoolOp .Or (b :: rest) pos) Γ O1 Q) ∧ (c = true → Q (.bl true) O1)) : WE C X (.BoolOp .Or (a :: b :: rest) pos) Γ O Q := .mk fun ok σ H S k hk =>
  ew_of (pe_or pe_ew pe_ew) (h ok σ H S _ fun v H1 d O1 q1 S1 l1 r1 => by
    obtain ⟨c, rfl, h1, h2⟩ := q1
    rw [rep_bl] at r1
    refine ⟨c, r1, ?_⟩
    cases c with
    | false => exact h1 rfl ok σ H1 S1 k (hk.le l1)
    | true => exact (hk.le l1).at (h2 rfl) S1 (rep_bl.mpr rfl))
theorem we_not (h : WE C X a Γ O fun x O1 => ∃ c, x = .bl c ∧ Q (.bl (!c)) O1) : WE C X (.UnaryOp .Not a pos) Γ O Q := .mk fun ok σ H S k hk =>
  ew_of (pe_not pe_ew) (h ok σ H S _ fun v H1 d O1 q1 S1 l1 r1 => by
    obtain ⟨c, rfl, h1⟩ := q1
    rw [rep_bl] at r1
    exact ⟨c, r1, (hk.le l1).at h1 S1 (rep_bl.mpr rfl)⟩)
theorem we_if (h : WT C X c Γ O fun t O1 => (t = true → WE C X a Γ O1 Q) ∧ (t = false → WE C X b Γ O1 Q)) : WE C X (.IfExp c a b pos) Γ O Q := .mk fun ok σ H S k hk =>
  ew_of (pe_ifExp pt_tw pe_ew pe_ew) (h ok σ H S _ fun t H1 O1 q1 S1 l1 => by
    cases t with
    | true => exact q1.1 rfl ok σ H1 S1 k (hk.le l1)
    | false => exact q1.2 rfl ok σ H1 S1 k (hk.le l1))

/-! ### tests -/
theorem wt_cmp {op : CmpOp} (hm : behindInMarks op b = false) (h : WE C X a Γ O fun x O1 => WE C X b Γ O1 fun y O2 => OW C X (compareOp op) x y Γ O2 fun z O3 => ∃ t, z = .bl t ∧ QT t O3) : WT C X (.Compare a [op] [b] pos) Γ O QT := .mk fun ok σ H S k hk pins s I => by
  refine wpAny_isTrue_Compare1 ?_ hm
  refine thn (two (A := fun _ => True) (B := fun _ => True) h ok S (k := fun v H1 => ∃ t, v = .bl t ∧ k t H1) ?_ I) fun v s1 hh => thn hh fun u s2 h2 => thn h2 fun c s3 ⟨z, H3, I3, r3, t, e, q3⟩ => ?_
  · intro v H1 d O1 q1 S1 l1 r1
    obtain ⟨t, rfl, q⟩ := q1
    rw [rep_bl] at r1
    exact ⟨t, r1, hk t H1 O1 q S1 l1⟩
  · subst e
    cases r3
    exact wpAny_truthy_bool ⟨H3, I3, q3⟩
theorem wt_of_u (h : WU C X a Γ O QT) : WT C X a Γ O QT := .mk fun ok σ H S k hk pins s I => h ok σ H S k hk _ pins s I
theorem wu_and1 (h : WT C X a Γ O QT) : WU C X (.BoolOp .And [a] pos) Γ O QT := .mk fun ok σ H S k hk => uw_of (pw_and1 pt_tw) (h ok σ H S k hk)
theorem wu_or1 (h : WT C X a Γ O QT) : WU C X (.BoolOp .Or [a] pos) Γ O QT := .mk fun ok σ H S k hk => uw_of (pw_or1 pt_tw) (h ok σ H S k hk)
theorem wu_and {rest : List Expr} (h : WT C X a Γ O fun t O1 => (t = true → WU C X (.BoolOp .And (b :: rest) pos) Γ O1 QT) ∧ (t = false → QT false O1)) : WU C X (.BoolOp .And (a :: b :: rest) pos) Γ O QT := .mk fun ok σ H S k hk =>
  uw_of (pw_and pt_tw pw_uw) (h ok σ H S _ fun t H1 O1 q1 S1 l1 => by
    cases t with
    | true => exact q1.1 rfl ok σ H1 S1 k fun t H2 O2 q2 S2 l2 => hk t H2 O2 q2 S2 (l1.trans l2)
    | false => exact hk false H1 O1 (q1.2 rfl) S1 l1)
theorem wu_or {rest : List Expr} (h : WT C X a Γ O fun t O1 => (t = false → WU C X (.BoolOp .Or (b :: rest) pos) Γ O1 QT) ∧ (t = true → QT true O1)) : WU C X (.BoolOp .Or (a :: b :: rest) pos) Γ O QT := .mk fun ok σ H S k hk =>
  uw_of (pw_or pt_tw pw_uw) (h ok σ H S _ fun t H1 O1 q1 S1 l1 => by
    cases t with
    | false => exact q1.1 rfl ok σ H1 S1 k fun t H2 O2 q2 S2 l2 => hk t H2 O2 q2 S2 (l1.trans l2)
    | true => exact hk true H1 O1 (q1.2 rfl) S1 l1)
theorem wt_not (h : WT C X a Γ O fun t O1 => QT (!t) O1) : WT C X (.UnaryOp .Not a pos) Γ O QT := .mk fun ok σ H S k hk =>
  tw_of (pt_not pt_tw) (h ok σ H S _ fun t H1 O1 q1 S1 l1 => hk (!t) H1 O1 q1 S1 l1)
/-- truth of data -/
inductive Tru : D → Bool → Prop
  | non : Tru .non false
  | bl {b : Bool} : Tru (.bl b) b
  | int {i : Int} : Tru (.int i) (i != 0)
  | lst {ds : List D} : Tru (.lst ds) (!ds.isEmpty)
  | tup {ds : List D} : Tru (.tup ds) (!ds.isEmpty)
  | klst {ds : List D} : Tru (.klst ds) (!ds.isEmpty)
  | ktup {ds : List D} : Tru (.ktup ds) (!ds.isEmpty)
  | dct {ds : List (Key × D)} : Tru (.dct ds) (!ds.isEmpty)
theorem repk_len {K : PySem.W.Frag} {N : Addr → Prop} {H : Hp} : ∀ {ds : List (Key × D)} {xs : List (Key × V)}, RepK K N H ds xs → xs.length = ds.length
  | [], _, h => by simp only [RepK] at h; subst h; rfl
  | (k, d) :: ds, _, h => by
    simp only [RepK] at h
    obtain ⟨x, r, rfl, _, h⟩ := h
    simp [repk_len h]
theorem Tru.ok {K : PySem.W.Frag} {N : Addr → Prop} {H : Hp} {d : D} {t : Bool} {v : V} (h : Tru d t) (r : Rep K N H d v) : TruV K v H t := by
  have emp : ∀ {α β : Type} {l : List α} {m : List β}, l.length = m.length → (!m.isEmpty) = !l.isEmpty := fun {α β l m} e => by
    cases l <;> cases m <;> simp at e ⊢
  cases h with
  | non => rw [rep_non] at r; subst r; rfl
  | bl => rw [rep_bl] at r; subst r; rfl
  | int => rw [rep_int] at r; subst r; rfl
  | lst =>
    simp only [Rep] at r
    obtain ⟨p, xs, rfl, _, e, r⟩ := r
    exact .inl ⟨xs, .inl (.inl e), emp (reps_len r)⟩
  | tup =>
    simp only [Rep] at r
    obtain ⟨p, xs, rfl, _, e, r⟩ := r
    exact .inr (.inl ⟨xs, .inl (.inl e), emp (reps_len r)⟩)
  | klst =>
    simp only [Rep] at r
    obtain ⟨p, xs, rfl, e, r⟩ := r
    refine .inl ⟨xs, ?_, emp (reps_len r)⟩
    rcases e with e | e
    · exact .inl e.2
    · exact .inr e
  | ktup =>
    simp only [Rep] at r
    obtain ⟨p, xs, rfl, e, r⟩ := r
    refine .inr (.inl ⟨xs, ?_, emp (reps_len r)⟩)
    rcases e with e | e
    · exact .inl e.2
    · exact .inr e
  | dct =>
    simp only [Rep] at r
    obtain ⟨p, xs, rfl, _, e, r⟩ := r
    exact .inr (.inr ⟨xs, e, emp (repk_len r)⟩)
theorem wt_truth (he : ∀ env whole, isTrue a env whole = (do let v ← whole; standAt a.pos; holding [v] (truthy v))) (h : WE C X a Γ O fun x O1 => ∃ t, Tru x t ∧ QT t O1) : WT C X a Γ O QT := .mk fun ok σ H S k hk =>
  tw_of (pt_truth pe_ew (he _)) (h ok σ H S _ fun v H1 d O1 q1 S1 l1 r1 => by
    obtain ⟨t, ht, q⟩ := q1
    exact ⟨t, by rw [ok.K]; exact ht.ok r1, hk t H1 O1 q S1 l1⟩)

/-! ### operations by HandS's rules -/
theorem ow_of {f : Value → Value → Sem Value} {r : R2} {x y : D} (ho : OpR X f r) (h : ∀ σ H v w, Sat C Γ O σ H → Rep C.M.K O.has H x v → Rep C.M.K O.has H y w → ∀ k, KV_ C Γ O σ H Q k → r v w H k) : OW C X f x y Γ O Q :=
  .mk fun ok σ H S v w rx ry k hk pins s v' w' I rv rw => ho pins s σ H v w v' w' k I rv rw (h σ H v w S rx ry k hk)
theorem nw_of {f : Value → Sem Value} {r : V → Hp → VK → Prop} {x : D} (ho : UnR X f r) (h : ∀ σ H v, Sat C Γ O σ H → Rep C.M.K O.has H x v → ∀ k, KV_ C Γ O σ H Q k → r v H k) : NW C X f x Γ O Q :=
  .mk fun ok σ H S v rx k hk pins s v' I rv => ho pins s σ H v v' k I rv (h σ H v S rx k hk)
theorem cw_of {f : Value} {fd : D} {r : List V → Hp → VK → Prop} {ds : List D} (hf : ∀ N H v f', Rep C.M.K N H fd v → RelV v f' → f' = f) (ho : Ok C X → CallR X f r) (h : Ok C X → ∀ σ H vs, Sat C Γ O σ H → Reps C.M.K O.has H ds vs → ∀ k, KV_ C Γ O σ H Q k → r vs H k) : CW C X fd ds Γ O Q :=
  .mk fun ok σ H S fv rf vs rv k hk pins s f' us I rf' rvs => by
    obtain rfl := hf _ _ _ _ rf rf'
    exact ho ok pins s σ H vs us k I rvs (h ok σ H vs S rv k hk)
section ops
variable {i j : Int}
theorem int2 {f : Value → Value → Sem Value} {R : Int → Int → Prop} {g : Int → Int → D} {gV : Int → Int → V} (hg : ∀ i j N H, Rep C.M.K N H (g i j) (gV i j)) (ho : OpR X f (rI R gV)) (hr : R i j) (q : Q (g i j) O) : OW C X f (.int i) (.int j) Γ O Q :=
  ow_of ho fun σ H v w S rx ry k hk => by
    rw [rep_int] at rx ry
    exact ⟨i, j, rx, ry, hr, hk.at q S (hg _ _ _ _)⟩
theorem int20 {f : Value → Value → Sem Value} {g : Int → Int → D} {gV : Int → Int → V} (hg : ∀ i j N H, Rep C.M.K N H (g i j) (gV i j)) (ho : OpR X f (rI0 gV)) (q : Q (g i j) O) : OW C X f (.int i) (.int j) Γ O Q :=
  ow_of ho fun σ H v w S rx ry k hk => by
    rw [rep_int] at rx ry
    exact ⟨i, j, rx, ry, hk.at q S (hg _ _ _ _)⟩
theorem ow_add (q : Q (.int (i + j)) O) : OW C X (binaryOp .Add) (.int i) (.int j) Γ O Q := int20 (g := fun i j => .int (i + j)) (fun _ _ _ _ => rep_int.mpr rfl) op_add q
theorem ow_sub (q : Q (.int (i - j)) O) : OW C X (binaryOp .Sub) (.int i) (.int j) Γ O Q := int20 (g := fun i j => .int (i - j)) (fun _ _ _ _ => rep_int.mpr rfl) op_sub q
theorem ow_mul (h : CMul i j) (q : Q (.int (i * j)) O) : OW C X (binaryOp .Mult) (.int i) (.int j) Γ O Q := int2 (g := fun i j => .int (i * j)) (fun _ _ _ _ => rep_int.mpr rfl) op_mul h q
theorem ow_mulW (h : CMulW i j) (q : Q (.int (i * j)) O) : OW C X (binaryOp .Mult) (.int i) (.int j) Γ O Q := int2 (g := fun i j => .int (i * j)) (fun _ _ _ _ => rep_int.mpr rfl) op_mulW h q
theorem ow_mod (h : 0 < j) (q : Q (.int (i % j)) O) : OW C X (binaryOp .Mod) (.int i) (.int j) Γ O Q := int2 (g := fun i j => .int (i % j)) (fun _ _ _ _ => rep_int.mpr rfl) op_mod h q
theorem ow_fdiv (h : CDivW i j) (q : Q (.int (i / j)) O) : OW C X (binaryOp .FloorDiv) (.int i) (.int j) Γ O Q := int2 (g := fun i j => .int (i / j)) (fun _ _ _ _ => rep_int.mpr rfl) op_fdivW h q
theorem ow_pow (h : CPow i j) (q : Q (.int (i ^ j.toNat)) O) : OW C X (binaryOp .Pow) (.int i) (.int j) Γ O Q := int2 (g := fun i j => .int (i ^ j.toNat)) (fun _ _ _ _ => rep_int.mpr rfl) op_pow h q
theorem ow_lt (q : Q (.bl (decide (i < j))) O) : OW C X (compareOp .Lt) (.int i) (.int j) Γ O Q := int20 (g := fun i j => .bl (decide (i < j))) (fun _ _ _ _ => rep_bl.mpr rfl) op_lt q
theorem ow_le (q : Q (.bl (decide (i ≤ j))) O) : OW C X (compareOp .LtE) (.int i) (.int j) Γ O Q := int20 (g := fun i j => .bl (decide (i ≤ j))) (fun _ _ _ _ => rep_bl.mpr rfl) op_le q
theorem ow_gt (q : Q (.bl (decide (j < i))) O) : OW C X (compareOp .Gt) (.int i) (.int j) Γ O Q := int20 (g := fun i j => .bl (decide (j < i))) (fun _ _ _ _ => rep_bl.mpr rfl) op_gt q
theorem ow_ge (q : Q (.bl (decide (j ≤ i))) O) : OW C X (compareOp .GtE) (.int i) (.int j) Γ O Q := int20 (g := fun i j => .bl (decide (j ≤ i))) (fun _ _ _ _ => rep_bl.mpr rfl) op_ge q
/-- scalars: None, bools, ints, texts -/
inductive Sc : D → V → Prop
  | non : Sc .non .non
  | bl {b : Bool} : Sc (.bl b) (.bl b)
  | int {i : Int} : Sc (.int i) (.int i)
  | str {x : Str} : Sc (.str x) (.str x)
theorem Sc.rep {d : D} {v v' : V} {K : PySem.W.Frag} {N : Addr → Prop} {H : Hp} (h : Sc d v) (r : Rep K N H d v') : v' = v := by
  cases h with
  | non => exact rep_non.mp r
  | bl => exact rep_bl.mp r
  | int => exact rep_int.mp r
  | str => exact rep_str.mp r
theorem ow_eq {x y : D} {v w : V} (hx : Sc x v) (hy : Sc y w) (hs : scal v w = true) (q : Q (.bl (decide (v = w))) O) : OW C X (compareOp .Eq) x y Γ O Q := ow_of op_eq fun σ H v' w' S rx ry k hk => by
  obtain rfl := hx.rep rx
  obtain rfl := hy.rep ry
  exact ⟨hs, hk.at q S (rep_bl.mpr rfl)⟩
theorem ow_ne {x y : D} {v w : V} (hx : Sc x v) (hy : Sc y w) (hs : scal v w = true) (q : Q (.bl (!decide (v = w))) O) : OW C X (compareOp .NotEq) x y Γ O Q := ow_of op_ne fun σ H v' w' S rx ry k hk => by
  obtain rfl := hx.rep rx
  obtain rfl := hy.rep ry
  exact ⟨hs, hk.at q S (rep_bl.mpr rfl)⟩
theorem ow_eqI (q : Q (.bl (decide (i = j))) O) : OW C X (compareOp .Eq) (.int i) (.int j) Γ O Q := ow_eq .int .int rfl (by
  have e : decide (V.int i = V.int j) = decide (i = j) := by by_cases h : i = j <;> simp [h]
  rw [e]; exact q)
theorem ow_neI (q : Q (.bl (!decide (i = j))) O) : OW C X (compareOp .NotEq) (.int i) (.int j) Γ O Q := ow_ne .int .int rfl (by
  have e : decide (V.int i = V.int j) = decide (i = j) := by by_cases h : i = j <;> simp [h]
  rw [e]; exact q)
/-- is None -/
def isNon : D → Bool
  | .non => true
  | _ => false
theorem isNon_rep {K : PySem.W.Frag} {N : Addr → Prop} {H : Hp} {d : D} {v : V} (r : Rep K N H d v) : decide (v = .non) = isNon d := by
  cases d <;> simp only [Rep] at r <;> first
    | (subst r; rfl)
    | (obtain ⟨_, _, rfl, _⟩ := r; rfl)
    | (obtain ⟨_, _, _, rfl, _⟩ := r; rfl)
theorem ow_is {x : D} (q : Q (.bl (isNon x)) O) : OW C X (compareOp .Is) x .non Γ O Q := ow_of op_isN fun σ H v w S rx ry k hk => by
  rw [rep_non] at ry
  refine ⟨ry, ?_⟩
  rw [isNon_rep rx]
  exact hk.at q S (rep_bl.mpr rfl)
theorem ow_isnot {x : D} (q : Q (.bl (!isNon x)) O) : OW C X (compareOp .IsNot) x .non Γ O Q := ow_of op_notN fun σ H v w S rx ry k hk => by
  rw [rep_non] at ry
  refine ⟨ry, ?_⟩
  rw [isNon_rep rx]
  exact hk.at q S (rep_bl.mpr rfl)
theorem nw_neg (q : Q (.int (-i)) O) : NW C X (unaryOp .USub) (.int i) Γ O Q := nw_of un_neg fun σ H v S rx k hk => by
  rw [rep_int] at rx
  exact ⟨i, rx, hk.at q S (rep_int.mpr rfl)⟩
end ops
theorem we_un {op : UnaryOp} (h : WE C X a Γ O fun x O1 => NW C X (unaryOp op) x Γ O1 Q) : WE C X (.UnaryOp op a pos) Γ O Q := .mk fun ok σ H S k hk pins s I =>
  UnaryOp_ (thn (h ok σ H S (fun v H1 => ∀ (pins : List (Addr × Obj)) (s : Shared) (v' : Value), Inv X pins σ H1 s → RelV v v' → wpAny (model X.prog X.w) X.A (unaryOp op v') (EP X pins σ k) X.xe s)
    (fun v H1 d O1 q1 S1 l1 r1 => q1 ok σ H1 S1 v r1 k (hk.le l1)) pins s I) fun v s1 ⟨x, H1, I1, r1, q1⟩ => q1 pins s1 v I1 r1)
theorem we_chain {op op' : CmpOp} (hm : lastMarks [op, op'] [b, c] = false)
    (h : WE C X a Γ O fun x O1 => WE C X b Γ O1 fun y O2 => OW C X (compareOp op) x y Γ O2 fun z O3 => ∃ t, z = .bl t ∧ (t = true → WE C X c Γ O3 fun u O4 => OW C X (compareOp op') y u Γ O4 Q) ∧ (t = false → Q (.bl false) O3)) :
    WE C X (.Compare a [op, op'] [b, c] pos) Γ O Q := .mk fun ok σ H S k hk pins s I => by
  refine Compare_chain (thn (h ok σ H S (fun v H1 => EW X b σ H1 fun w H2 => ∀ (pins : List (Addr × Obj)) (s : Shared) (v' w' : Value), Inv X pins σ H2 s → RelV v v' → RelV w w' →
    wpAny (model X.prog X.w) X.A (compareOp op v' w') (EP X pins σ fun z H3 => ∃ t, z = .bl t ∧ (t = true → EW X c σ H3 fun u H4 => ∀ (pins : List (Addr × Obj)) (s : Shared) (w' u' : Value), Inv X pins σ H4 s → RelV w w' → RelV u u' → wpAny (model X.prog X.w) X.A (compareOp op' w' u') (EP X pins σ k) X.xe s) ∧ (t = false → k (.bl false) H3)) X.xe s) ?_ pins s I) fun v s1 ⟨x, H1, I1, r1, q1⟩ => ?_) hm
  · intro v H1 d O1 q1 S1 l1 r1
    refine q1 ok σ H1 S1 _ fun w H2 e O2 q2 S2 l2 r2 => ?_
    refine q2 ok σ H2 S2 v w (Rep.le l2 r1) r2 _ fun z H3 g O3 q3 S3 l3 r3 => ?_
    obtain ⟨t, rfl, ht, hf⟩ := q3
    rw [rep_bl] at r3
    refine ⟨t, r3, fun e => ?_, fun e => ((hk.le ((l1.trans l2).trans l3)).at (hf e) S3 (rep_bl.mpr rfl))⟩
    refine ht e ok σ H3 S3 _ fun u H4 du O4 q4 S4 l4 r4 => ?_
    exact q4 ok σ H4 S4 w u (Rep.le l4 (Rep.le l3 r2)) r4 k (hk.le (((l1.trans l2).trans l3).trans l4))
  · refine chain_link (thn (q1 pins s1 I1) fun u s2 ⟨y, H2, I2, r2, q2⟩ => thn (q2 pins s2 v u I2 r1 r2) fun d s3 ⟨z, H3, I3, r3, t, e, q3, q3'⟩ => ?_)
    subst e
    cases r3
    refine wpAny_truthy_bool ?_
    cases t with
    | false => exact ite_ff ⟨.bl false, H3, I3, rfl, q3' rfl⟩
    | true => exact ite_tt (chain_last (thn (q3 rfl pins s3 I3) fun w' s4 ⟨z', H4, I4, r4, q4⟩ => q4 pins s4 u w' I4 r2 r4))
end
end DL
namespace DL
open PySem PySem.Spec PyProof.Rows L2

/-! ### what is owned: looked up, changed, given away -/
inductive OAt : Own → Addr → OD → Prop
  | here {a : Addr} {o : OD} {O : Own} : OAt ((a, o) :: O) a o
  | there {a : Addr} {o : OD} {p : Addr × OD} {O : Own} : OAt O a o → OAt (p :: O) a o
inductive OUp : Own → Addr → OD → OD → Own → Prop
  | here {a : Addr} {o o' : OD} {O : Own} : OUp ((a, o) :: O) a o o' ((a, o') :: O)
  | there {a : Addr} {o o' : OD} {p : Addr × OD} {O O' : Own} : OUp O a o o' O' → OUp (p :: O) a o o' (p :: O')
/-- a's entry taken out -/
inductive OTk : Own → Addr → OD → Own → Prop
  | here {a : Addr} {o : OD} {O : Own} : OTk ((a, o) :: O) a o O
  | there {a : Addr} {o : OD} {p : Addr × OD} {O O' : Own} : OTk O a o O' → OTk (p :: O) a o (p :: O')
theorem OAt.mem {O : Own} {a : Addr} {o : OD} (h : OAt O a o) : (a, o) ∈ O := by
  induction h with
  | here => exact List.mem_cons_self
  | there _ ih => exact List.mem_cons_of_mem _ ih
theorem OUp.keys {O O' : Own} {a : Addr} {o o' : OD} (h : OUp O a o o' O') : O'.map (·.1) = O.map (·.1) := by
  induction h with
  | here => rfl
  | there _ ih => simp [ih]
theorem OUp.at_ {O O' : Own} {a : Addr} {o o' : OD} (h : OUp O a o o' O') : OAt O a o ∧ ∀ b ob, (b, ob) ∈ O' → (b, ob) ∈ O ∨ (b = a ∧ ob = o') := by
  induction h with
  | here => exact ⟨.here, fun b ob hb => by rcases List.mem_cons.mp hb with e | e; exact .inr (by cases e; exact ⟨rfl, rfl⟩); exact .inl (List.mem_cons_of_mem _ e)⟩
  | there _ ih =>
    refine ⟨.there ih.1, fun b ob hb => ?_⟩
    rcases List.mem_cons.mp hb with e | e
    · exact .inl (by rw [e]; exact List.mem_cons_self)
    · rcases ih.2 b ob e with h | h
      · exact .inl (List.mem_cons_of_mem _ h)
      · exact .inr h
theorem OUp.other {O O' : Own} {a : Addr} {o o' : OD} (h : OUp O a o o' O') (nd : (O.map (·.1)).Nodup) : ∀ b ob, (b, ob) ∈ O' → b ≠ a → (b, ob) ∈ O := fun b ob hb n => by
  rcases h.at_.2 b ob hb with h | h
  · exact h
  · exact absurd h.1 n
theorem OUp.self {O O' : Own} {a : Addr} {o o' : OD} (h : OUp O a o o' O') (nd : (O.map (·.1)).Nodup) : ∀ ob, (a, ob) ∈ O' → ob = o' := by
  induction h with
  | here =>
    intro ob hb
    rcases List.mem_cons.mp hb with e | e
    · cases e; rfl
    · simp only [List.map_cons, List.nodup_cons] at nd
      exact absurd (List.mem_map.mpr ⟨_, e, rfl⟩) nd.1
  | there u ih =>
    intro ob hb
    simp only [List.map_cons, List.nodup_cons] at nd
    rcases List.mem_cons.mp hb with e | e
    · exfalso
      cases e
      exact nd.1 (List.mem_map.mpr ⟨_, u.at_.1.mem, rfl⟩)
    · exact ih nd.2 ob e
theorem OTk.keys {O O' : Own} {a : Addr} {o : OD} (h : OTk O a o O') : OAt O a o ∧ (∀ p ∈ O', p ∈ O) ∧ ((O.map (·.1)).Nodup → (O'.map (·.1)).Nodup ∧ ¬ O'.has a) := by
  induction h with
  | here => exact ⟨.here, fun p hp => List.mem_cons_of_mem _ hp, fun nd => by simp only [List.map_cons, List.nodup_cons] at nd; exact ⟨nd.2, nd.1⟩⟩
  | there t ih =>
    obtain ⟨h1, h2, h3⟩ := ih
    refine ⟨.there h1, fun p hp => ?_, fun nd => ?_⟩
    · rcases List.mem_cons.mp hp with e | e
      · rw [e]; exact List.mem_cons_self
      · exact List.mem_cons_of_mem _ (h2 p e)
    · simp only [List.map_cons, List.nodup_cons] at nd
      obtain ⟨g1, g2⟩ := h3 nd.2
      refine ⟨?_, ?_⟩
      · simp only [List.map_cons, List.nodup_cons]
        refine ⟨fun z => nd.1 ?_, g1⟩
        obtain ⟨q, hq, e⟩ := List.mem_map.mp z
        exact List.mem_map.mpr ⟨q, h2 q hq, e⟩
      · intro z
        simp only [Own.has, List.map_cons, List.mem_cons] at z
        rcases z with z | z
        · exact nd.1 (List.mem_map.mpr ⟨_, h1.mem, z⟩)
        · exact g2 z

section
variable {K : PySem.W.Frag} {O O' : Own} {H H' : Hp}
theorem RepO.le (l : Le O H O' H') {a : Addr} {od : OD} (k : ∀ o, H a = some o → H' a = some o) (h : RepO K O.has H a od) : RepO K O'.has H' a od := by
  cases od with
  | lst ds => obtain ⟨xs, e, r⟩ := h; exact ⟨xs, k _ e, Reps.le l r⟩
  | dct ds => obtain ⟨xs, e, r⟩ := h; exact ⟨xs, k _ e, RepK.le l r⟩
  | ins C ds => obtain ⟨dx, xs, e, r⟩ := h; exact ⟨dx, xs, k _ e, RepF.le l r⟩
  | box P => obtain ⟨ds, xs, hP, e, r⟩ := h; exact ⟨ds, xs, hP, k _ e, Reps.le l r⟩
  | tab q0 =>
    obtain ⟨ps, e, t, r⟩ := h
    refine ⟨ps, k _ e, t, fun pos cv hc => ?_⟩
    obtain ⟨c, e1, n, e2⟩ := r pos cv hc
    exact ⟨c, e1, l.not e2 n, l.keep _ _ e2 n⟩
/-- given away: nothing changes but who owns it -/
theorem OTk.le {a : Addr} {od : OD} (h : OTk O a od O') : Le O H O' H := ⟨fun _ _ e _ => e, fun b hb => by
  obtain ⟨q, hq, e⟩ := List.mem_map.mp hb
  exact .inl (List.mem_map.mpr ⟨q, h.keys.2.1 q hq, e⟩)⟩
theorem OTk.own {a : Addr} {od : OD} (h : OTk O a od O') (w : OwnOk K O H) : OwnOk K O' H :=
  ⟨(h.keys.2.2 w.nd).1, fun b ob hb => RepO.le h.le (fun _ e => e) (w.at_ b ob (h.keys.2.1 _ hb))⟩
theorem OTk.lst {a : Addr} {ds : List D} (h : OTk O a (.lst ds) O') (w : OwnOk K O H) : Rep K O'.has H (.lst ds) (.ref a) := by
  obtain ⟨xs, e, r⟩ := w.at_ a _ h.keys.1.mem
  simp only [Rep]
  exact ⟨a, xs, rfl, (h.keys.2.2 w.nd).2, e, Reps.le h.le r⟩
theorem OTk.dct {a : Addr} {ds : List (Key × D)} (h : OTk O a (.dct ds) O') (w : OwnOk K O H) : Rep K O'.has H (.dct ds) (.ref a) := by
  obtain ⟨xs, e, r⟩ := w.at_ a _ h.keys.1.mem
  simp only [Rep]
  exact ⟨a, xs, rfl, (h.keys.2.2 w.nd).2, e, RepK.le h.le r⟩
theorem OTk.ins {a C : Addr} {fs : List (Str × D)} (h : OTk O a (.ins C fs) O') (w : OwnOk K O H) : Rep K O'.has H (.ins C fs) (.ref a) := by
  obtain ⟨dx, xs, e, r⟩ := w.at_ a _ h.keys.1.mem
  simp only [Rep]
  exact ⟨a, dx, xs, rfl, (h.keys.2.2 w.nd).2, e, RepF.le h.le r⟩
/-- an owned object changes -/
theorem OUp.le {a : Addr} {od od' : OD} {o : HO} (h : OUp O a od od' O') : Le O H O' (upd H a o) := ⟨fun b u e n => by
  rw [upd_ne (fun z => n (by rw [z]; exact List.mem_map.mpr ⟨_, h.at_.1.mem, rfl⟩))]; exact e, fun b hb => .inl (by rw [Own.has, ← h.keys]; exact hb)⟩
theorem OUp.own {a : Addr} {od od' : OD} {o : HO} (h : OUp O a od od' O') (w : OwnOk K O H) (new : RepO K O'.has (upd H a o) a od') : OwnOk K O' (upd H a o) := by
  refine ⟨by rw [h.keys]; exact w.nd, fun b ob hb => ?_⟩
  by_cases e : b = a
  · subst e
    rw [h.self w.nd ob hb]
    exact new
  · have := w.at_ b ob (h.other w.nd b ob hb e)
    exact RepO.le h.le (fun u q => by rw [upd_ne e]; exact q) this
/-- a new owned object -/
theorem own_new {p : Addr} {o : HO} {od : OD} (w : OwnOk K O H) (hp : H p = none) (new : RepO K (Own.has ((p, od) :: O)) (upd H p o) p od) : OwnOk K ((p, od) :: O) (upd H p o) ∧ Le O H ((p, od) :: O) (upd H p o) := by
  have l : Le O H ((p, od) :: O) (upd H p o) := ⟨fun a u e _ => by rw [upd_ne (ne_of_none e hp)]; exact e, fun a ha => by
    simp only [Own.has, List.map_cons, List.mem_cons] at ha
    rcases ha with z | z
    · exact .inr (by rw [z]; exact hp)
    · exact .inl z⟩
  refine ⟨⟨?_, fun a ob hb => ?_⟩, l⟩
  · simp only [List.map_cons, List.nodup_cons]
    exact ⟨w.nothas hp, w.nd⟩
  · rcases List.mem_cons.mp hb with e | e
    · cases e; exact new
    · have q := w.at_ a ob e
      have n : a ≠ p := fun z => w.nothas hp (by rw [← z]; exact List.mem_map.mpr ⟨_, e, rfl⟩)
      exact RepO.le l (fun u q => by rw [upd_ne n]; exact q) q
end

section
variable {C : CD} {X : Cx} {Γ Γ' : En} {O : Own} {Q : D → Own → Prop} {QT : Bool → Own → Prop} {QA : List D → Own → Prop} {pos : Pos} {a b c e : Expr} {es : List Expr} {σ : St} {H : Hp}
/-- an owned value is given away -/
theorem we_frz (h : WE C X e Γ O fun d O1 => ∃ p O2, d = .ref p ∧ ((∃ ds, OTk O1 p (.lst ds) O2 ∧ Q (.lst ds) O2) ∨ (∃ ds, OTk O1 p (.dct ds) O2 ∧ Q (.dct ds) O2) ∨ ∃ Cl fs, OTk O1 p (.ins Cl fs) O2 ∧ Q (.ins Cl fs) O2)) : WE C X e Γ O Q := .mk fun ok σ H S k hk =>
  h ok σ H S k fun v H' d O1 q1 S1 l1 r1 => by
    obtain ⟨p, O2, rfl, q⟩ := q1
    rw [rep_ref] at r1
    subst r1
    rcases q with ⟨ds, t, q⟩ | ⟨ds, t, q⟩ | ⟨Cl, fs, t, q⟩
    · exact hk _ H' _ O2 q (S1.step t.le (t.own S1.own)) (l1.trans t.le) (t.lst S1.own)
    · exact hk _ H' _ O2 q (S1.step t.le (t.own S1.own)) (l1.trans t.le) (t.dct S1.own)
    · exact hk _ H' _ O2 q (S1.step t.le (t.own S1.own)) (l1.trans t.le) (t.ins S1.own)
theorem we_imp {Q1 : D → Own → Prop} (h : WE C X e Γ O Q1) (i : ∀ d O, Q1 d O → Q d O) : WE C X e Γ O Q := .mk fun ok σ H S k hk =>
  h ok σ H S k fun v H' d O1 q1 S1 l1 r1 => hk v H' d O1 (i d O1 q1) S1 l1 r1

/-! ### arguments -/
theorem wa_nil (q : QA [] O) : WA C X [] Γ O QA := .mk fun ok σ H S k hk => aw_of pa_nil (hk [] H [] O q S (Le.refl _ _) (reps_nil.mpr rfl))
theorem wa_cons (hs : ∀ env, starEach (e :: es) env = (false, eval e env) :: starEach es env) (h : WE C X e Γ O fun d O1 => WA C X es Γ O1 fun ds O2 => QA (d :: ds) O2) : WA C X (e :: es) Γ O QA := .mk fun ok σ H S k hk =>
  aw_of (pa_cons pe_ew pa_aw (hs _)) (h ok σ H S _ fun v H1 d O1 q1 S1 l1 r1 => q1 ok σ H1 S1 _ fun vs H2 ds O2 q2 S2 l2 r2 =>
    hk (v :: vs) H2 (d :: ds) O2 q2 S2 (l1.trans l2) (reps_cons.mpr ⟨v, vs, rfl, Rep.le l2 r1, r2⟩))
theorem sq_of_lst {K : PySem.W.Frag} {N : Addr → Prop} {H : Hp} {ds : List D} {v : V} (r : Rep K N H (.lst ds) v) : ∃ p xs, v = .ref p ∧ H p = some (.lst xs) ∧ Reps K N H ds xs := by
  simp only [Rep] at r
  obtain ⟨p, xs, rfl, _, e, r⟩ := r
  exact ⟨p, xs, rfl, e, r⟩
theorem sq_of_tup {K : PySem.W.Frag} {N : Addr → Prop} {H : Hp} {ds : List D} {v : V} (r : Rep K N H (.tup ds) v) : ∃ p xs, v = .ref p ∧ H p = some (.tup xs) ∧ Reps K N H ds xs := by
  simp only [Rep] at r
  obtain ⟨p, xs, rfl, _, e, r⟩ := r
  exact ⟨p, xs, rfl, e, r⟩
theorem sq_of_klst {K : PySem.W.Frag} {N : Addr → Prop} {H : Hp} {ds : List D} {v : V} (r : Rep K N H (.klst ds) v) : ∃ p xs, v = .ref p ∧ SqL K H p xs ∧ Reps K N H ds xs := by
  simp only [Rep] at r
  obtain ⟨p, xs, rfl, e, r⟩ := r
  rcases e with e | e
  · exact ⟨p, xs, rfl, .inl e.2, r⟩
  · exact ⟨p, xs, rfl, .inr e, r⟩
theorem sq_of_ktup {K : PySem.W.Frag} {N : Addr → Prop} {H : Hp} {ds : List D} {v : V} (r : Rep K N H (.ktup ds) v) : ∃ p xs, v = .ref p ∧ SqT K H p xs ∧ Reps K N H ds xs := by
  simp only [Rep] at r
  obtain ⟨p, xs, rfl, e, r⟩ := r
  rcases e with e | e
  · exact ⟨p, xs, rfl, .inl e.2, r⟩
  · exact ⟨p, xs, rfl, .inr e, r⟩
/-- the items of a list -/
inductive SqLs : Own → D → List D → Prop
  | lst {O : Own} {ds : List D} : SqLs O (.lst ds) ds
  | klst {O : Own} {ds : List D} : SqLs O (.klst ds) ds
  | own {O : Own} {p : Addr} {ds : List D} : OAt O p (.lst ds) → SqLs O (.ref p) ds
inductive SqTs : Own → D → List D → Prop
  | tup {O : Own} {ds : List D} : SqTs O (.tup ds) ds
  | ktup {O : Own} {ds : List D} : SqTs O (.ktup ds) ds
theorem SqLs.ok {K : PySem.W.Frag} {O : Own} {H : Hp} {d : D} {ds : List D} {v : V} (h : SqLs O d ds) (w : OwnOk K O H) (r : Rep K O.has H d v) : ∃ p xs, v = .ref p ∧ SqL K H p xs ∧ Reps K O.has H ds xs := by
  cases h with
  | lst => obtain ⟨p, xs, e, h, r⟩ := sq_of_lst r; exact ⟨p, xs, e, .inl (.inl h), r⟩
  | klst => exact sq_of_klst r
  | own h =>
    rw [rep_ref] at r
    obtain ⟨xs, e, r'⟩ := w.at_ _ _ h.mem
    exact ⟨_, xs, r, .inl (.inl e), r'⟩
theorem SqTs.ok {K : PySem.W.Frag} {O : Own} {H : Hp} {d : D} {ds : List D} {v : V} (h : SqTs O d ds) (r : Rep K O.has H d v) : ∃ p xs, v = .ref p ∧ SqT K H p xs ∧ Reps K O.has H ds xs := by
  cases h with
  | tup => obtain ⟨p, xs, e, h, r⟩ := sq_of_tup r; exact ⟨p, xs, e, .inl (.inl h), r⟩
  | ktup => exact sq_of_ktup r
/-- the items of data -/
inductive Sq : Own → D → List D → Prop
  | l {O : Own} {d : D} {ds : List D} : SqLs O d ds → Sq O d ds
  | t {O : Own} {d : D} {ds : List D} : SqTs O d ds → Sq O d ds
theorem Sq.ok {K : PySem.W.Frag} {O : Own} {H : Hp} {d : D} {ds : List D} {v : V} (h : Sq O d ds) (w : OwnOk K O H) (r : Rep K O.has H d v) : ∃ p xs, v = .ref p ∧ (SqL K H p xs ∨ SqT K H p xs) ∧ Reps K O.has H ds xs := by
  cases h with
  | l h => obtain ⟨p, xs, e, h, r⟩ := h.ok w r; exact ⟨p, xs, e, .inl h, r⟩
  | t h => obtain ⟨p, xs, e, h, r⟩ := h.ok r; exact ⟨p, xs, e, .inr h, r⟩
/-- a list that is tracked -/
inductive SqO : Own → D → List D → Prop
  | lst {O : Own} {ds : List D} : SqO O (.lst ds) ds
  | own {O : Own} {p : Addr} {ds : List D} : OAt O p (.lst ds) → SqO O (.ref p) ds
theorem SqO.ok {K : PySem.W.Frag} {O : Own} {H : Hp} {d : D} {ds : List D} {v : V} (h : SqO O d ds) (w : OwnOk K O H) (r : Rep K O.has H d v) : ∃ p xs, v = .ref p ∧ H p = some (.lst xs) ∧ Reps K O.has H ds xs := by
  cases h with
  | lst => exact sq_of_lst r
  | own h =>
    rw [rep_ref] at r
    obtain ⟨xs, e, r'⟩ := w.at_ _ _ h.mem
    exact ⟨_, xs, r, e, r'⟩
/-- *e -/
theorem wa_star {p : Pos} (hs : ∀ env, starEach (.Starred e p :: es) env = (true, eval e env) :: starEach es env) (h : WE C X e Γ O fun d O1 => ∃ xs, Sq O1 d xs ∧ WA C X es Γ O1 fun ds O2 => QA (xs ++ ds) O2) : WA C X (.Starred e p :: es) Γ O QA := .mk fun ok σ H S k hk =>
  aw_of (StX.pa_star pe_ew pa_aw (hs _)) (h ok σ H S _ fun v H1 d O1 q1 S1 l1 r1 => by
    obtain ⟨xs, hx, q1⟩ := q1
    obtain ⟨p, ys, rfl, sq, ry⟩ := hx.ok S1.own r1
    refine ⟨p, ys, rfl, by rw [ok.K]; exact sq.symm, ?_⟩
    refine q1 ok σ H1 S1 _ fun vs H2 ds O2 q2 S2 l2 r2 => ?_
    exact hk (ys ++ vs) H2 (xs ++ ds) O2 q2 S2 (l1.trans l2) (reps_app (Reps.le l2 ry) r2))

/-! ### displays -/
theorem we_tup {x1} (h : WA C X es Γ O fun ds O1 => ds.length ≤ sizeLine ∧ Q (.tup ds) O1) : WE C X (.Tuple es x1 pos) Γ O Q := .mk fun ok σ H S k hk =>
  ew_of (pe_tup pa_aw) (h ok σ H S _ fun vs H1 ds O1 q1 S1 l1 r1 => ⟨by rw [reps_len r1]; exact q1.1, fun p hp => (hk.le l1).new S1 hp q1.2 (by
    simp only [Rep]
    exact ⟨p, vs, rfl, S1.own.nothas hp, upd_same, Reps.le (Le.new_obj O1 hp) r1⟩)⟩)
theorem we_lst (h : WA C X es Γ O fun ds O1 => ds.length ≤ sizeLine ∧ Q (.lst ds) O1) : WE C X (.List es pos) Γ O Q := .mk fun ok σ H S k hk =>
  ew_of (pe_lst pa_aw) (h ok σ H S _ fun vs H1 ds O1 q1 S1 l1 r1 => ⟨by rw [reps_len r1]; exact q1.1, fun p hp => (hk.le l1).new S1 hp q1.2 (by
    simp only [Rep]
    exact ⟨p, vs, rfl, S1.own.nothas hp, upd_same, Reps.le (Le.new_obj O1 hp) r1⟩)⟩)
theorem KV_.newO {k : VK} {p : Addr} {o : HO} {od : OD} (h : KV_ C Γ O σ H Q k) (S : Sat C Γ O σ H) (hp : H p = none) (q : Q (.ref p) ((p, od) :: O)) (r : RepO C.M.K (Own.has ((p, od) :: O)) (upd H p o) p od) : k (.ref p) (upd H p o) :=
  have w := own_new S.own hp r
  h _ _ _ _ q (S.step w.2 w.1) w.2 (rep_ref.mpr rfl)
/-- a list that may change later -/
theorem we_lstO (h : WA C X es Γ O fun ds O1 => ds.length ≤ sizeLine ∧ ∀ p, ¬ O1.has p → Q (.ref p) ((p, .lst ds) :: O1)) : WE C X (.List es pos) Γ O Q := .mk fun ok σ H S k hk =>
  ew_of (pe_lst pa_aw) (h ok σ H S _ fun vs H1 ds O1 q1 S1 l1 r1 => ⟨by rw [reps_len r1]; exact q1.1, fun p hp => (hk.le l1).newO S1 hp (q1.2 p (S1.own.nothas hp)) (by
    refine ⟨vs, upd_same, ?_⟩
    exact Reps.le (⟨fun a u e _ => by rw [upd_ne (ne_of_none e hp)]; exact e, fun a ha => by
      simp only [Own.has, List.map_cons, List.mem_cons] at ha
      rcases ha with z | z
      · exact .inr (by rw [z]; exact hp)
      · exact .inl z⟩ : Le O1 H1 _ _) r1)⟩)

/-! ### fields -/
/-- data that is an instance -/
inductive Ins : Own → D → Addr → List (Str × D) → Prop
  | ins {O : Own} {Cl : Addr} {fs : List (Str × D)} : Ins O (.ins Cl fs) Cl fs
  | own {O : Own} {p Cl : Addr} {fs : List (Str × D)} : OAt O p (.ins Cl fs) → Ins O (.ref p) Cl fs
theorem Ins.ok {K : PySem.W.Frag} {O : Own} {H : Hp} {d : D} {Cl : Addr} {fs : List (Str × D)} {v : V} (h : Ins O d Cl fs) (w : OwnOk K O H) (r : Rep K O.has H d v) : ∃ p dx gs, v = .ref p ∧ H p = some (.ins Cl dx gs) ∧ RepF K O.has H fs gs := by
  cases h with
  | ins =>
    simp only [Rep] at r
    obtain ⟨p, dx, gs, rfl, _, e, r⟩ := r
    exact ⟨p, dx, gs, rfl, e, r⟩
  | own h =>
    rw [rep_ref] at r
    obtain ⟨dx, gs, e, r'⟩ := w.at_ _ _ h.mem
    exact ⟨_, dx, gs, r, e, r'⟩
/-- a field's data -/
inductive FAt : List (Str × D) → Str → D → Prop
  | here {f : Str} {d : D} {fs : List (Str × D)} : FAt ((f, d) :: fs) f d
  | there {f g : Str} {d d' : D} {fs : List (Str × D)} : (f == g) = false → FAt fs f d → FAt ((g, d') :: fs) f d
theorem FAt.get {K : PySem.W.Frag} {N : Addr → Prop} {H : Hp} : ∀ {fs : List (Str × D)} {f : Str} {d : D} {gs : List (Str × V)}, FAt fs f d → RepF K N H fs gs → ∃ v, gs.lookup f = some v ∧ Rep K N H d v
  | _, _, _, _, .here, h => by
    simp only [RepF] at h
    obtain ⟨v, r, rfl, a, _⟩ := h
    exact ⟨v, by simp [List.lookup], a⟩
  | _, _, _, _, .there ne a, h => by
    simp only [RepF] at h
    obtain ⟨v, r, rfl, _, h⟩ := h
    obtain ⟨w, h1, h2⟩ := FAt.get a h
    exact ⟨w, by simp [List.lookup, ne, h1], h2⟩
/-- no such field -/
theorem repf_no {K : PySem.W.Frag} {N : Addr → Prop} {H : Hp} {f : Str} : ∀ {fs : List (Str × D)} {gs : List (Str × V)}, RepF K N H fs gs → fs.lookup f = none → gs.lookup f = none
  | [], _, h, _ => by simp only [RepF] at h; subst h; rfl
  | (g, d) :: fs, _, h, e => by
    simp only [RepF] at h
    obtain ⟨v, r, rfl, _, h⟩ := h
    rw [List.lookup_cons] at e ⊢
    cases q : f == g with
    | true => rw [q] at e; cases e
    | false => rw [q] at e; exact repf_no h e
theorem repf_len {K : PySem.W.Frag} {N : Addr → Prop} {H : Hp} : ∀ {fs : List (Str × D)} {gs : List (Str × V)}, RepF K N H fs gs → gs.length = fs.length
  | [], _, h => by simp only [RepF] at h; subst h; rfl
  | (g, d) :: fs, _, h => by
    simp only [RepF] at h
    obtain ⟨v, r, rfl, _, h⟩ := h
    simp [repf_len h]
theorem we_fld {f : Str} (hb : ∀ env, attributeBase a f env (eval a env) = eval a env) (h : WE C X a Γ O fun d O1 => ∃ Cl fs v, Ins O1 d Cl fs ∧ Cls C.M.K Cl ∧ NoAttr C.M.K Cl f ∧ FAt fs f v ∧ Q v O1) : WE C X (.Attribute a f pos) Γ O Q := .mk fun ok σ H S k hk =>
  ew_of (pe_fld pe_ew (hb _)) (h ok σ H S _ fun v H1 d O1 q1 S1 l1 r1 => by
    obtain ⟨Cl, fs, w, i, cl, no, fa, q⟩ := q1
    obtain ⟨p, dx, gs, rfl, e, rf⟩ := i.ok S1.own r1
    obtain ⟨u, hu, ru⟩ := fa.get rf
    exact ⟨p, Cl, dx, gs, u, rfl, e, by rw [ok.K]; exact cl, by rw [ok.K]; exact no, hu, (hk.le l1).at q S1 ru⟩)

/-! ### items, parts -/
theorem we_ix (hs : PlainIx b) (h : WE C X a Γ O fun x O1 => WE C X b Γ O1 fun y O2 => ∃ ds i d, Sq O2 x ds ∧ y = .int i ∧ atI ds i = some d ∧ Q d O2) : WE C X (.Subscript a b pos) Γ O Q := .mk fun ok σ H S k hk =>
  ew_of (pe_ix (ix_list.or ix_tup) pe_ew pe_ew hs) (h ok σ H S _ fun v H1 x O1 q1 S1 l1 r1 => q1 ok σ H1 S1 _ fun w H2 y O2 q2 S2 l2 r2 => by
    obtain ⟨ds, i, d, sq, rfl, ha, q⟩ := q2
    rw [rep_int] at r2
    obtain ⟨p, xs, rfl, hx, rx⟩ := sq.ok S2.own (Rep.le l2 r1)
    obtain ⟨j, h1, h2, h3, h4, h5⟩ := atI_get ha
    obtain ⟨u, hu, ru⟩ := reps_get rx h2
    have hl := reps_len rx
    have hat : atI xs i = some u := by
      unfold atI at ha ⊢
      rw [hl]
      cases hj : ixN ds.length i with
      | none => rw [hj] at ha; cases ha
      | some j' =>
        have := (ixN_seq hj).1
        rw [h1] at this; cases this
        exact hu
    rcases hx with hx | hx
    · exact .inl ⟨p, xs, i, u, rfl, r2, by rw [ok.K]; exact hx, hat, (hk.le (l1.trans l2)).at q S2 ru⟩
    · exact .inr ⟨p, xs, i, u, rfl, r2, by rw [ok.K]; exact hx, hat, (hk.le (l1.trans l2)).at q S2 ru⟩)
end
end DL
namespace DL
open PySem PySem.Spec PyProof.Rows L2

/-! ### targets -/
def GW (X : Cx) (tg : Expr) (v : V) (σ : St) (H : Hp) (R : St → Hp → Prop) : Prop :=
  ∀ (pins : List (Addr × Obj)) (s : Shared) (u : Value), Inv X pins σ H s → RelV v u → wpAny (model X.prog X.w) X.A (assign tg X.env u) (fun _ s' => ∃ σ' H', Inv X pins σ' H' s' ∧ R σ' H') X.xe s
theorem pg_gw {X : Cx} {tg : Expr} : PG X tg (GW X tg) := ⟨fun pins s _ _ _ u _ I r h => h pins s u I r⟩
theorem gw_of {X : Cx} {tg : Expr} {t : TG} {v : V} {σ : St} {H : Hp} {R : St → Hp → Prop} (p : PG X tg t) (h : t v σ H R) : GW X tg v σ H R := fun pins s u I r => p.run pins s σ H v u R I r h
def GsW (X : Cx) (tgs : List Expr) (vs : List V) (σ : St) (H : Hp) (R : St → Hp → Prop) : Prop :=
  ∀ (pins : List (Addr × Obj)) (s : Shared) (us : List Value), Inv X pins σ H s → Vals vs us → wpAny (model X.prog X.w) X.A (assignInOrder ((assignEach tgs X.env).map (·.2)) us) (fun _ s' => ∃ σ' H', Inv X pins σ' H' s' ∧ R σ' H') X.xe s
theorem pgs_gsw {X : Cx} {tgs : List Expr} : PGs X tgs (GsW X tgs) := ⟨fun pins s _ _ _ us _ I r h => h pins s us I r⟩
theorem gsw_of {X : Cx} {tgs : List Expr} {t : TGs} {vs : List V} {σ : St} {H : Hp} {R : St → Hp → Prop} (p : PGs X tgs t) (h : t vs σ H R) : GsW X tgs vs σ H R := fun pins s us I r => p.run pins s σ H vs us R I r h
/-- behind a store -/
def GK (C : CD) (O : Own) (H : Hp) (R : En → Own → Prop) (k : St → Hp → Prop) : Prop := ∀ σ' H' Γ' O', R Γ' O' → Sat C Γ' O' σ' H' → Le O H O' H' → k σ' H'
structure WG (C : CD) (X : Cx) (tg : Expr) (d : D) (Γ : En) (O : Own) (R : En → Own → Prop) : Prop where
  run :
    Ok C X → ∀ σ H, Sat C Γ O σ H → ∀ v, Rep C.M.K O.has H d v → ∀ k, GK C O H R k → GW X tg v σ H k
instance {C : CD} {X : Cx} {tg : Expr} {d : D} {Γ : En} {O : Own} {R : En → Own → Prop} : CoeFun (WG C X tg d Γ O R) (fun _ =>
  Ok C X → ∀ σ H, Sat C Γ O σ H → ∀ v, Rep C.M.K O.has H d v → ∀ k, GK C O H R k → GW X tg v σ H k) := ⟨WG.run⟩
structure WGs (C : CD) (X : Cx) (tgs : List Expr) (ds : List D) (Γ : En) (O : Own) (R : En → Own → Prop) : Prop where
  run :
    Ok C X → ∀ σ H, Sat C Γ O σ H → ∀ vs, Reps C.M.K O.has H ds vs → ∀ k, GK C O H R k → GsW X tgs vs σ H k
instance {C : CD} {X : Cx} {tgs : List Expr} {ds : List D} {Γ : En} {O : Own} {R : En → Own → Prop} : CoeFun (WGs C X tgs ds Γ O R) (fun _ =>
  Ok C X → ∀ σ H, Sat C Γ O σ H → ∀ vs, Reps C.M.K O.has H ds vs → ∀ k, GK C O H R k → GsW X tgs vs σ H k) := ⟨WGs.run⟩

section
variable {C : CD} {X : Cx} {Γ Γ' : En} {O : Own} {Q : D → Own → Prop} {QT : Bool → Own → Prop} {QA : List D → Own → Prop} {R : En → Own → Prop} {N : De} {pos : Pos} {a b c e : Expr} {es : List Expr} {σ : St} {H : Hp}
theorem wg_name {x : Str} {d : D} (hx : x ∈ C.Ls) (u : Up Γ x (some d) Γ') (q : R Γ' O) : WG C X (.Name x pos) d Γ O R := .mk fun ok σ H S v r k hk => by
  obtain ⟨i, h1, h2⟩ := u.set S.sl r
  rw [S.nm] at h1
  have l := ok.loc x hx
  exact gw_of (pg_name (i := i) (by rw [ok.N]; exact ok.nd) (by rw [ok.N]; exact h1) l.1 l.2) (hk _ H Γ' O q ⟨by rw [u.nm]; exact S.nm, h2, S.own, S.le⟩ (Le.refl _ _))
theorem wgs_nil (q : R Γ O) : WGs C X [] [] Γ O R := .mk fun ok σ H S vs r k hk => by
  rw [reps_nil] at r
  exact gsw_of pgs_nil ⟨r, hk σ H Γ O q S (Le.refl _ _)⟩
theorem wgs_cons {d : D} {ds : List D} (hs : ∀ env, (assignEach (e :: es) env).map (·.2) = assign e env :: (assignEach es env).map (·.2)) (h : WG C X e d Γ O fun Γ1 O1 => WGs C X es ds Γ1 O1 R) : WGs C X (e :: es) (d :: ds) Γ O R := .mk fun ok σ H S vs r k hk => by
  rw [reps_cons] at r
  obtain ⟨x, xs, rfl, r1, r2⟩ := r
  refine gsw_of (pgs_cons pg_gw pgs_gsw (hs _)) ⟨x, xs, rfl, ?_⟩
  refine h ok σ H S x r1 _ fun σ1 H1 Γ1 O1 q1 S1 l1 => ?_
  exact q1 ok σ1 H1 S1 xs (Reps.le l1 r2) k fun σ2 H2 Γ2 O2 q2 S2 l2 => hk σ2 H2 Γ2 O2 q2 S2 (l1.trans l2)
theorem wg_tup {n : Nat} {ds : List D} (hl : ds.length = es.length) (hn : ∀ env, (assignEach es env).length = es.length) (hst : ∀ env, (assignEach es env).findIdx? (·.1) = none) (h : WGs C X es ds Γ O R) : WG C X (.Tuple es n pos) (.tup ds) Γ O R := .mk fun ok σ H S v r k hk => by
  obtain ⟨p, xs, rfl, sq, rx⟩ := sq_of_tup r
  exact gw_of (pg_tup ok.calm pgs_gsw (hn _) (hst _)) ⟨p, xs, rfl, .inl (.inl sq), by rw [reps_len rx, hl], h ok σ H S xs rx k hk⟩

/-! ### statements -/
theorem EndsOk.nx' {D : Ends} (h : EndsOk C N D) {σ : St} {H : Hp} (q : N.nx Γ O) (S : Sat C Γ O σ H) : D.nx σ H := h.nx σ H Γ O q S
theorem wss_nil (q : N.nx Γ O) : WSs C X [] Γ O N := .mk fun ok σ H S D hD => sws_of pss_nil (hD.nx σ H Γ O q S)
theorem wss_cons {st : Stmt} {rest : List Stmt} (h : WS C X st Γ O { N with nx := fun Γ1 O1 => WSs C X rest Γ1 O1 N }) : WSs C X (st :: rest) Γ O N := .mk fun ok σ H S D hD =>
  sws_of (pss_cons ps_sw pss_sws) (h ok σ H S _ ⟨fun σ1 H1 Γ1 O1 q1 S1 => q1 ok σ1 H1 S1 D hD, hD.rt, hD.bk, hD.ct⟩)
theorem ws_pass (q : N.nx Γ O) : WS C X (.Pass pos) Γ O N := .mk fun ok σ H S D hD => sw_of ps_pass (hD.nx σ H Γ O q S)
theorem ws_break (q : N.bk Γ O) : WS C X (.Break pos) Γ O N := .mk fun ok σ H S D hD => sw_of ps_break (hD.bk σ H Γ O q S)
theorem ws_continue (q : N.ct Γ O) : WS C X (.Continue pos) Γ O N := .mk fun ok σ H S D hD => sw_of ps_continue (hD.ct σ H Γ O q S)
theorem ws_expr (hs : ∀ env, swapsWith e none pos.line env = pure false) (h : WE C X e Γ O fun _ O1 => N.nx Γ O1) : WS C X (.Expr e pos) Γ O N := .mk fun ok σ H S D hD =>
  sw_of (ps_expr pe_ew (hs _)) (h ok σ H S _ fun v H1 d O1 q1 S1 l1 r1 => hD.nx σ H1 Γ O1 q1 S1)
theorem ws_ret (h : WE C X e Γ O N.rt) : WS C X (.Return (some e) pos) Γ O N := .mk fun ok σ H S D hD =>
  sw_of (ps_ret pe_ew) (h ok σ H S _ fun v H1 d O1 q1 S1 l1 r1 => hD.rt v H1 d O1 q1 S1.own S1.le r1)
theorem ws_retN (q : N.rt .non O) : WS C X (.Return none pos) Γ O N := .mk fun ok σ H S D hD =>
  sw_of ps_retN (hD.rt .non H .non O q S.own S.le (rep_non.mpr rfl))
theorem ws_if {ta tb : List Stmt} (h : WT C X c Γ O fun t O1 => (t = true → WSs C X ta Γ O1 N) ∧ (t = false → WSs C X tb Γ O1 N)) : WS C X (.If c ta tb pos) Γ O N := .mk fun ok σ H S D hD =>
  sw_of (ps_if pt_tw pss_sws pss_sws) (h ok σ H S _ fun t H1 O1 q1 S1 l1 => by
    cases t with
    | true => exact q1.1 rfl ok σ H1 S1 D hD
    | false => exact q1.2 rfl ok σ H1 S1 D hD)
theorem ws_asg {tg : Expr} (hs : ∀ env, swapsWithSole [tg] e pos.line env = pure false) (hw : ∀ env, swappedStores [tg] e env = pure none) (h1 : ∀ env, (assignEach [tg] env).map (·.2) = [assign tg env])
    (h : WE C X e Γ O fun d O1 => WG C X tg d Γ O1 N.nx) : WS C X (.Assign [tg] e pos) Γ O N := .mk fun ok σ H S D hD =>
  sw_of (ps_asg pe_ew pg_gw (hs _) (hw _) (h1 _)) (h ok σ H S _ fun v H1 d O1 q1 S1 l1 r1 => q1 ok σ H1 S1 v r1 _ fun σ2 H2 Γ2 O2 q2 S2 l2 => hD.nx σ2 H2 Γ2 O2 q2 S2)
theorem ws_set {x : Str} {pos' : Pos} (hs : ∀ env, swapsWith e (some (.Name x pos')) pos.line env = pure false) (hx : x ∈ C.Ls) (h : WE C X e Γ O fun d O1 => ∃ Γ', Up Γ x (some d) Γ' ∧ N.nx Γ' O1) : WS C X (.Assign [.Name x pos'] e pos) Γ O N := .mk fun ok σ H S D hD => by
  intro pins s I
  have l := ok.loc x hx
  refine wpAny_Assign_Name (thn (h ok σ H S (fun v H1 => ∃ i : Nat, X.N[i]? = some x ∧ D.nx (σ.set i (some v)) H1) (fun v H1 d O1 q1 S1 l1 r1 => ?_) pins s I) fun u s1 ⟨v, H1, I1, r1, i, hi, q1⟩ => ?_) (hs _)
  · obtain ⟨Γ', u, q⟩ := q1
    obtain ⟨i, h1, h2⟩ := u.set S1.sl r1
    rw [S1.nm] at h1
    exact ⟨i, by rw [ok.N]; exact h1, hD.nx _ H1 Γ' O1 q ⟨by rw [u.nm]; exact S1.nm, h2, S1.own, S1.le⟩⟩
  · exact store_ok I1 (by rw [ok.N]; exact ok.nd) hi l.1 r1 (fun s2 I2 => ⟨_, H1, I2, q1⟩) l.2

/-! ### defs -/
/-- what a def does, over data: the arguments, what is owned, what is wanted of the result, of an exception -/
abbrev TF := List D → Own → (D → Own → Prop) → (Exn → Own → Prop) → Prop
def spD (K : PySem.W.Frag) (T : TF) : Sp := fun vs H Q E => ∃ ds O QD ED, OwnOk K O H ∧ Reps K O.has H ds vs ∧ T ds O QD ED ∧
  (∀ v H' d O', QD d O' → OwnOk K O' H' → Le O H O' H' → Rep K O'.has H' d v → Q v H') ∧
  (∀ cls dx H' x O', ED x O' → OwnOk K O' H' → Le O H O' H' → RepX K O' H' x cls dx → E cls dx H')
/-- values that need no heap -/
def Fix (K : PySem.W.Frag) (ds : List D) (us : List Value) : Prop := ∃ vs, Vals vs us ∧ ∀ N H, Reps K N H ds vs
theorem Fix.nil {K : PySem.W.Frag} : Fix K [] [] := ⟨[], .nil, fun _ _ => reps_nil.mpr rfl⟩
/-- a def by its bound parameters ps -/
structure FnG (M : Md) (j : Nat) (f : Addr) (fd : FuncData) (ps : List Str) (sp : Sp) : Prop where
  len : ∀ vs H Q E, sp vs H Q E → vs.length = ps.length
  run : ∀ (A : Around) (outer : List Env) (s : Shared) (H : Hp) (args : Args) (us : List Value) (vs : List V) (Q : VK) (E : XK), Room j A → A.guards = some [] → Env0 M.P M.w M.K M.mg M.base A outer s H → BindsTo s fd args (ps.zip us) → Vals vs us → sp vs H Q E →
    codeAny (model M.P M.w) A (.call (.ref f) args) (CR (L2.CX M.P M.w) outer M.P M.w H s Q E) s
/-- a value called with values: ks the names of the last of them, T what it does -/
def Runs (M : Md) (j : Nat) (f : Value) (ks : List Str) (T : TF) : Prop :=
  ∀ (A : Around) (outer : List Env) (s : Shared) (H : Hp) (us ws : List Value) (vs : List V) (Q : VK) (E : XK), Room j A → A.guards = some [] → Env0 M.P M.w M.K M.mg M.base A outer s H → Vals vs (us ++ ws) → ws.length = ks.length → spD M.K T vs H Q E →
    codeAny (model M.P M.w) A (.call f ⟨us, ks.zip ws⟩) (CR (L2.CX M.P M.w) outer M.P M.w H s Q E) s
/-- the def at f, called with positional arguments, keeps the promise T -/
structure Df (M : Md) (j : Nat) (f : Addr) (T : TF) : Prop where
  run : Runs M j (.ref f) [] T
  kp : PySem.W.keepIn M.K (.ref f) = true
structure DfK (M : Md) (j : Nat) (f : Addr) (ks : List Str) (T : TF) : Prop where
  run : Runs M j (.ref f) ks T
  kp : PySem.W.keepIn M.K (.ref f) = true
/-- all parameters given by position, but those that the defaults dds fill -/
theorem FnG.df {M : Md} {j : Nat} {f : Addr} {fd : FuncData} {ps : List Str} {T : TF} {dds : List D} {du : List Value} (F : FnG M j f fd ps (spD M.K T)) (kp : PySem.W.keepIn M.K (.ref f) = true) (hb : Binds M.K fd ps du) (hd : Fix M.K dds du) :
    Df M j f (fun ds O Q E => T (ds ++ dds) O Q E) := by
  refine ⟨fun A outer s H us ws vs Q E hr hg e0 rv hl h => ?_, kp⟩
  obtain rfl : ws = [] := List.length_eq_zero_iff.mp hl
  rw [List.append_nil] at rv
  obtain ⟨dv, hdv, hdr⟩ := hd
  obtain ⟨ds, O, QD, ED, w, r, t, hQ, hE⟩ := h
  have sp : spD M.K T (vs ++ dv) H Q E := ⟨ds ++ dds, O, QD, ED, w, reps_app r (hdr _ _), t, hQ, hE⟩
  have r2 := rv.append hdv
  have hl2 : (us ++ du).length = ps.length := by rw [← r2.length]; exact F.len _ _ _ _ sp
  exact F.run A outer s H ⟨us, []⟩ (us ++ du) (vs ++ dv) Q E hr hg e0 (hb s us (e0.mod.kin.keeps fun b o e => (e0.bs b o e).1) hl2) r2 sp
/-- a call's end, as the caller wants it -/
def RF (X : Cx) (pins : List (Addr × Obj)) (σ : St) (k : VK) (r : Result) (s' : Shared) : Prop := match r with
  | .ok (.ret u) => EP X pins σ k u s'
  | .ok _ => False
  | .error e => X.xe e s'
/-- the own def or class at f, called with ds and the keywords ks of values es -/
structure CB (C : CD) (f : Addr) (ds : List D) (ks : List Str) (es : List D) (Γ : En) (O : Own) (Q : D → Own → Prop) : Prop where
  run :
    ∀ X, Ok C X → ∀ σ H, Sat C Γ O σ H → ∀ vs, Reps C.M.K O.has H (ds ++ es) vs → ∀ k : VK, KV_ C Γ O σ H Q k →
      ∀ (A : Around) (pins : List (Addr × Obj)) (s : Shared) (us ws : List Value), A = X.A ∨ A = X.A.in1 → Inv X pins σ H s → Vals vs (us ++ ws) → ws.length = ks.length →
        codeAny (model X.prog X.w) A (.call (.ref f) ⟨us, ks.zip ws⟩) (RF X pins σ k) s
instance {C : CD} {f : Addr} {ds : List D} {ks : List Str} {es : List D} {Γ : En} {O : Own} {Q : D → Own → Prop} : CoeFun (CB C f ds ks es Γ O Q) (fun _ =>
  ∀ X, Ok C X → ∀ σ H, Sat C Γ O σ H → ∀ vs, Reps C.M.K O.has H (ds ++ es) vs → ∀ k : VK, KV_ C Γ O σ H Q k →
    ∀ (A : Around) (pins : List (Addr × Obj)) (s : Shared) (us ws : List Value), A = X.A ∨ A = X.A.in1 → Inv X pins σ H s → Vals vs (us ++ ws) → ws.length = ks.length →
      codeAny (model X.prog X.w) A (.call (.ref f) ⟨us, ks.zip ws⟩) (RF X pins σ k) s) := ⟨CB.run⟩
theorem cb_runs {j : Nat} {f : Addr} {ks : List Str} {T : TF} {ds es : List D} (F : Runs C.M j (.ref f) ks T) (hj : j + 1 ≤ C.k) (h : T (ds ++ es) O Q fun x O' => C.ED x Γ O') : CB C f ds ks es Γ O Q := .mk fun X ok σ H S vs r k hk A pins s us ws hA I rv hl => by
  have e0 : Env0 C.M.P C.M.w C.M.K C.M.mg C.M.base A X.stack s H := by
    rw [← ok.prog, ← ok.w, ← ok.K, ← ok.mg, ← ok.base]
    rcases hA with rfl | rfl
    · exact I.env0
    · exact I.env0.in1
  have hr : Room j A := by
    rcases hA with rfl | rfl
    · exact ok.room.mono (by omega)
    · exact (ok.room.mono hj).in1
  have hg : A.guards = some [] := by
    rcases hA with rfl | rfl
    · exact ok.grd
    · exact ok.grd
  have G := F A X.stack s H us ws vs k (fun cls d H => ∃ x Γ O, C.ED x Γ O ∧ Sat C Γ O σ H ∧ RepX C.M.K O H x cls d) hr hg e0 rv hl
    ⟨ds ++ es, O, Q, fun x O' => C.ED x Γ O', S.own, r, h, fun v H' d O' q w l r => hk v H' d O' q (S.step l w) l r, fun cls dx H' x O' q w l r => ⟨x, Γ, O', q, S.step l w, r⟩⟩
  rw [← ok.prog, ← ok.w] at G
  refine codeAny_mono G fun rs s' hq => ?_
  match rs, hq with
  | .error e, hq => exact ok.thr σ _ (fun _ _ _ h => h) pins H s e s' I hq
  | .ok (.ret u), hq => exact I.after hq
theorem cb_df {j : Nat} {f : Addr} {T : TF} {ds : List D} (F : Df C.M j f T) (hj : j + 1 ≤ C.k) (h : T ds O Q fun x O' => C.ED x Γ O') : CB C f ds [] [] Γ O Q := cb_runs F.run hj (by rw [List.append_nil]; exact h)
theorem cb_dfk {j : Nat} {f : Addr} {ks : List Str} {T : TF} {ds es : List D} (F : DfK C.M j f ks T) (hj : j + 1 ≤ C.k) (h : T (ds ++ es) O Q fun x O' => C.ED x Γ O') : CB C f ds ks es Γ O Q := cb_runs F.run hj h
/-- a call that raises nothing -/
def RN (X : Cx) (pins : List (Addr × Obj)) (σ : St) (k : VK) (r : Result) (s' : Shared) : Prop := match r with
  | .ok (.ret u) => EP X pins σ k u s'
  | _ => False
structure CP (C : CD) (f : Addr) (ds : List D) (Γ : En) (O : Own) (Q : D → Own → Prop) : Prop where
  run :
    ∀ X, Ok C X → ∀ σ H, Sat C Γ O σ H → ∀ vs, Reps C.M.K O.has H ds vs → ∀ k : VK, KV_ C Γ O σ H Q k →
      ∀ (A : Around) (pins : List (Addr × Obj)) (s : Shared) (us : List Value), A = X.A ∨ A = X.A.in1 → Inv X pins σ H s → Vals vs us →
        codeAny (model X.prog X.w) A (.call (.ref f) ⟨us, []⟩) (RN X pins σ k) s
instance {C : CD} {f : Addr} {ds : List D} {Γ : En} {O : Own} {Q : D → Own → Prop} : CoeFun (CP C f ds Γ O Q) (fun _ =>
  ∀ X, Ok C X → ∀ σ H, Sat C Γ O σ H → ∀ vs, Reps C.M.K O.has H ds vs → ∀ k : VK, KV_ C Γ O σ H Q k →
    ∀ (A : Around) (pins : List (Addr × Obj)) (s : Shared) (us : List Value), A = X.A ∨ A = X.A.in1 → Inv X pins σ H s → Vals vs us →
      codeAny (model X.prog X.w) A (.call (.ref f) ⟨us, []⟩) (RN X pins σ k) s) := ⟨CP.run⟩
theorem cp_df {j : Nat} {f : Addr} {T : TF} {ds : List D} (F : Df C.M j f T) (hj : j + 1 ≤ C.k) (h : T ds O Q fun _ _ => False) : CP C f ds Γ O Q := .mk fun X ok σ H S vs r k hk A pins s us hA I rv => by
  have e0 : Env0 C.M.P C.M.w C.M.K C.M.mg C.M.base A X.stack s H := by
    rw [← ok.prog, ← ok.w, ← ok.K, ← ok.mg, ← ok.base]
    rcases hA with rfl | rfl
    · exact I.env0
    · exact I.env0.in1
  have hr : Room j A := by
    rcases hA with rfl | rfl
    · exact ok.room.mono (by omega)
    · exact (ok.room.mono hj).in1
  have hg : A.guards = some [] := by
    rcases hA with rfl | rfl
    · exact ok.grd
    · exact ok.grd
  have G := F.run A X.stack s H us [] vs k (fun _ _ _ => False) hr hg e0 (by rw [List.append_nil]; exact rv) rfl
    ⟨ds, O, Q, fun _ _ => False, S.own, r, h, fun v H' d O' q w l r => hk v H' d O' q (S.step l w) l r, fun cls dx H' x O' q w l r => q⟩
  rw [← ok.prog, ← ok.w] at G
  refine codeAny_mono G fun rs s' hq => ?_
  match rs, hq with
  | .error e, hq =>
    obtain ⟨_, _, _, _, _, _, _, _, _, _, _, _, q⟩ := hq
    exact q
  | .ok (.ret u), hq => exact I.after hq
theorem guards_make {A : Around} {c : Addr} {us : List Value} {kw : List (Str × Value)} : (A.under (.builtin "type.__call__" ⟨.ref c :: us, kw⟩)).guards = A.guards := by
  first | rfl | simp [Around.under, Code.guards, Code.isGuard, guardIds, pushGuards]
/-- an instance of the class at Cl is made, its __init__ at f -/
theorem cb_mk {j : Nat} {Cl f : Addr} {ks : List Str} {T : TF} {ds es : List D} (Mc : Mk C.M.K Cl f) (F : Runs C.M j (.ref f) ks T) (hj : j + 2 ≤ C.k)
    (h : ∀ a, ¬ O.has a → T (.ref a :: (ds ++ es)) ((a, .ins Cl []) :: O) (fun d O2 => d = .non ∧ Q (.ref a) O2) fun x O' => C.ED x Γ O') : CB C Cl ds ks es Γ O Q := .mk fun X ok σ H S vs r k hk A pins s us ws hA I rv hlw => by
  have Mc' : Mk X.K Cl f := by rw [ok.K]; exact Mc
  have I2 := Inv.made (C := Cl) I
  have na := I.hok.fresh (Nat.le_succ s.heap.objs.size)
  have nd := I.hok.fresh (Nat.le_refl s.heap.objs.size)
  have ne : s.heap.objs.size ≠ s.heap.objs.size + 1 := Nat.ne_of_lt (Nat.lt_succ_self _)
  have w1 := ownOk_new (o := .own (s.heap.objs.size + 1)) S.own nd
  have l1 : Le O H O (upd H s.heap.objs.size (.own (s.heap.objs.size + 1))) := Le.new_obj O nd
  have na1 : (upd H s.heap.objs.size (.own (s.heap.objs.size + 1))) (s.heap.objs.size + 1) = none := by rw [upd_ne (Ne.symm ne)]; exact na
  obtain ⟨w2, l2⟩ := own_new (K := C.M.K) (od := .ins Cl []) (o := .ins Cl s.heap.objs.size []) w1 na1 ⟨_, [], upd_same, by simp [RepF]⟩
  have l := l1.trans l2
  have hr : Room (j + 1) A := by
    rcases hA with rfl | rfl
    · exact ok.room.mono (by omega)
    · exact (ok.room.mono hj).in1
  have hg : A.guards = some [] := by
    rcases hA with rfl | rfl
    · exact ok.grd
    · exact ok.grd
  have e00 := I2.env0
  have e0 : Env0 _ _ _ _ _ _ _ _ _ := Env0.make (A := A) (by
    rcases hA with h | h
    · subst h; exact e00
    · subst h; exact e00.in1) Cl us (ks.zip ws)
  rw [ok.prog, ok.w, ok.K, ok.mg, ok.base] at e0
  have G := F _ X.stack _ _ (Value.ref (s.heap.objs.size + 1) :: us) ws (V.ref (s.heap.objs.size + 1) :: vs) (fun v H2 => v = .non ∧ k (.ref (s.heap.objs.size + 1)) H2) (fun cls d H => ∃ x Γ O, C.ED x Γ O ∧ Sat C Γ O σ H ∧ RepX C.M.K O H x cls d)
    (hr.make Cl us (ks.zip ws)) (by rw [guards_make]; exact hg) e0 (.cons rfl rv) hlw
    ⟨.ref (s.heap.objs.size + 1) :: (ds ++ es), _, _, _, w2, reps_cons.mpr ⟨_, _, rfl, rep_ref.mpr rfl, Reps.le l r⟩, h _ (S.own.nothas na), fun v H' d O' q w l' r' => by
      obtain ⟨rfl, q⟩ := q
      exact ⟨rep_non.mp r', hk _ H' _ O' q (S.step (l.trans l') w) (l.trans l') (rep_ref.mpr rfl)⟩, fun cls d H' x O' q w l' r' => ⟨x, Γ, O', q, S.step (l.trans l') w, r'⟩⟩
  rw [← ok.prog, ← ok.w] at G
  refine make_map (f := f) I.kIn Mc'.makes Mc'.init (beq_iff_eq.mp Mc'.fn) (codeAny_mono G fun rs s' hq => ?_)
  match rs, hq with
  | .error e, hq => exact ok.thr σ _ (fun _ _ _ h => h) pins _ _ e s' I2 hq
  | .ok (.ret u), hq =>
    obtain ⟨v, H', I3, rv', ev, q3⟩ := I2.after hq
    subst ev
    exact ⟨rv', ⟨V.ref (s.heap.objs.size + 1), H', I3, rfl, q3⟩⟩
/-- what the arguments are to leave: a call of the own f -/
def CallK (C : CD) (X : Cx) (f : Addr) (ks : List Str) (σ : St) (k : VK) (ds es : List V) (H : Hp) : Prop :=
  ∀ (pins : List (Addr × Obj)) (s : Shared) (us ws : List Value), Inv X pins σ H s → Vals ds us → Vals es ws → es.length = ks.length → wpAny (model X.prog X.w) X.A (call (.ref f) us (ks.zip ws)) (EP X pins σ k) X.xe s
theorem CB.call {f : Addr} {ks : List Str} {ds es : List D} (h : CB C f ds ks es Γ O Q) (ok : Ok C X) (S : Sat C Γ O σ H) {k : VK} (hk : KV_ C Γ O σ H Q k) {vs zs : List V} (r : Reps C.M.K O.has H ds vs) (r2 : Reps C.M.K O.has H es zs) : CallK C X f ks σ k vs zs H :=
  fun pins s us ws I rv rz hl => wpAny_call (codeAny_mono (h X ok σ H S (vs ++ zs) (reps_app r r2) k hk X.A pins s us ws (.inl rfl) I (rv.append rz) (by rw [← rz.length, hl])) fun rs s' q => by
    match rs, q with
    | .error e, q => exact q
    | .ok (.ret u), q => exact q)
/-- x(e, ..), x the name of an own def or class -/
theorem we_cl {x : Str} {p : Pos} (he : ∀ env, starEach (e :: es) env = (false, eval e env) :: starEach es env) (hpl : ∀ env, (backTo pos (starEach es env)).any (·.1) = false)
    (h : WE C X (.Name x p) Γ O fun d O1 => ∃ f, d = .ref f ∧ PySem.W.keepIn C.M.K (.ref f) = true ∧ WA C X (e :: es) Γ O1 fun ds O2 => CB C f ds [] [] Γ O2 Q) : WE C X (.Call (.Name x p) (e :: es) [] pos) Γ O Q := .mk fun ok σ H S k hk pins s I => by
  refine wpAny_Call_Name_kw (thn (h ok σ H S (fun v H1 => ∃ f, v = .ref f ∧ PySem.W.keepIn X.K (.ref f) = true ∧ AW X (e :: es) σ H1 fun vs H2 => CallK C X f [] σ k vs [] H2) (fun v H1 d O1 q1 S1 l1 r1 => ?_) pins s I) fun u s1 ⟨v, H1, I1, r1, f, ev, kp, q⟩ => ?_)
  · obtain ⟨f, rfl, kp, q⟩ := q1
    refine ⟨f, rep_ref.mp r1, by rw [ok.K]; exact kp, ?_⟩
    exact q ok σ H1 S1 _ fun vs H2 ds O2 q2 S2 l2 r2 => q2.call ok S2 (hk.le (l1.trans l2)) r2 (reps_nil.mpr rfl)
  · subst ev
    cases r1
    exact PySem.W.callWith_K (h₀ := X.base) I.ok.mod.kin kp (thn (q pos pins s1 I1) fun us s2 ⟨vs, H2, I2, r, q2⟩ => ⟨I2.kIn, q2 pins s2 us [] I2 r .nil rfl⟩) (he _) (hpl _)
theorem we_cl0 {x : Str} {p : Pos} (h : WE C X (.Name x p) Γ O fun d O1 => ∃ f, d = .ref f ∧ PySem.W.keepIn C.M.K (.ref f) = true ∧ CB C f [] [] [] Γ O1 Q) : WE C X (.Call (.Name x p) [] [] pos) Γ O Q := .mk fun ok σ H S k hk pins s I => by
  refine wpAny_Call_Name_kw (thn (h ok σ H S (fun v H1 => ∃ f, v = .ref f ∧ PySem.W.keepIn X.K (.ref f) = true ∧ CallK C X f [] σ k [] [] H1) (fun v H1 d O1 q1 S1 l1 r1 => ?_) pins s I) fun u s1 ⟨v, H1, I1, r1, f, ev, kp, q⟩ => ?_)
  · obtain ⟨f, rfl, kp, q⟩ := q1
    exact ⟨f, rep_ref.mp r1, by rw [ok.K]; exact kp, q.call ok S1 (hk.le l1) (reps_nil.mpr rfl) (reps_nil.mpr rfl)⟩
  · subst ev
    cases r1
    exact PySem.W.callWith_K0 I1.kIn kp (q pins s1 [] [] I1 .nil .nil rfl)
/-- x( *e) -/
theorem we_clS {x : Str} {p p2 : Pos} (hst : ∀ env, starEach [.Starred e p2] env = [(true, eval e env)])
    (h : WE C X (.Name x p) Γ O fun d O1 => ∃ f, d = .ref f ∧ PySem.W.keepIn C.M.K (.ref f) = true ∧ WE C X e Γ O1 fun y O2 => ∃ ds, Sq O2 y ds ∧ CB C f ds [] [] Γ O2 Q) : WE C X (.Call (.Name x p) [.Starred e p2] [] pos) Γ O Q := .mk fun ok σ H S k hk pins s I => by
  refine wpAny_Call_Name_kw (thn (h ok σ H S (fun v H1 => ∃ f, v = .ref f ∧ PySem.W.keepIn X.K (.ref f) = true ∧ EW X e σ H1 fun y H2 => ∃ a xs, y = V.ref a ∧ (SqT X.K H2 a xs ∨ SqL X.K H2 a xs) ∧ CallK C X f [] σ k xs [] H2) (fun v H1 d O1 q1 S1 l1 r1 => ?_) pins s I) fun u s1 ⟨v, H1, I1, r1, f, ev, kp, q⟩ => ?_)
  · obtain ⟨f, rfl, kp, q⟩ := q1
    refine ⟨f, rep_ref.mp r1, by rw [ok.K]; exact kp, ?_⟩
    refine q ok σ H1 S1 _ fun y H2 d O2 q2 S2 l2 r2 => ?_
    obtain ⟨ds, sq, q3⟩ := q2
    obtain ⟨a, xs, rfl, hx, rx⟩ := sq.ok S2.own r2
    exact ⟨a, xs, rfl, by rw [ok.K]; exact hx.symm, q3.call ok S2 (hk.le (l1.trans l2)) rx (reps_nil.mpr rfl)⟩
  · subst ev
    cases r1
    refine PySem.W.callWith_S (h₀ := X.base) I.ok.mod.kin kp (thn (q pins s1 I1) fun v s2 ⟨y, H2, I2, ry, a, xs, ey, hx, q2⟩ => ?_) (hst _)
    subst ey
    obtain rfl : v = Value.ref a := ry
    exact StX.star_any I2 hx fun us s3 I3 rv => ⟨I3.kIn, q2 pins s3 us [] I3 rv .nil rfl⟩
/-- x(e, .., *y) -/
theorem we_clS2 {x : Str} {p : Pos} (he : ∀ env, starEach (e :: es) env = (false, eval e env) :: starEach es env) (hst : ∀ env, (backTo pos (starEach es env)).any (·.1) = true)
    (h : WE C X (.Name x p) Γ O fun d O1 => ∃ f, d = .ref f ∧ PySem.W.keepIn C.M.K (.ref f) = true ∧ WA C X (e :: es) Γ O1 fun ds O2 => CB C f ds [] [] Γ O2 Q) : WE C X (.Call (.Name x p) (e :: es) [] pos) Γ O Q := .mk fun ok σ H S k hk pins s I => by
  refine wpAny_Call_Name_kw (thn (h ok σ H S (fun v H1 => ∃ f, v = .ref f ∧ PySem.W.keepIn X.K (.ref f) = true ∧ AW X (e :: es) σ H1 fun vs H2 => CallK C X f [] σ k vs [] H2) (fun v H1 d O1 q1 S1 l1 r1 => ?_) pins s I) fun u s1 ⟨v, H1, I1, r1, f, ev, kp, q⟩ => ?_)
  · obtain ⟨f, rfl, kp, q⟩ := q1
    refine ⟨f, rep_ref.mp r1, by rw [ok.K]; exact kp, ?_⟩
    exact q ok σ H1 S1 _ fun vs H2 ds O2 q2 S2 l2 r2 => q2.call ok S2 (hk.le (l1.trans l2)) r2 (reps_nil.mpr rfl)
  · subst ev
    cases r1
    exact PySem.W.callWith_S2 (h₀ := X.base) I.ok.mod.kin kp (thn (q pos pins s1 I1) fun us s2 ⟨vs, H2, I2, r, q2⟩ => ⟨I2.kIn, q2 pins s2 us [] I2 r .nil rfl⟩) (he _) (hst _)
/-! keywords -/
theorem wk_nil {QA : List D → Own → Prop} (q : QA [] O) : WK C X [] Γ O QA := .mk fun ok σ H S k hk => kw_of pk_nil (hk [] H [] O q S (Le.refl _ _) (reps_nil.mpr rfl))
theorem wk_cons {QA : List D → Own → Prop} {nm : Option Str} {kpos : Pos} {kws : List Keyword} (h : WE C X e Γ O fun d O1 => WK C X kws Γ O1 fun ds O2 => QA (d :: ds) O2) : WK C X (⟨nm, e, kpos⟩ :: kws) Γ O QA := .mk fun ok σ H S k hk =>
  kw_of (pk_cons pe_ew pk_kw) (h ok σ H S _ fun v H1 d O1 q1 S1 l1 r1 => q1 ok σ H1 S1 _ fun vs H2 ds O2 q2 S2 l2 r2 =>
    hk (v :: vs) H2 (d :: ds) O2 q2 S2 (l1.trans l2) (reps_cons.mpr ⟨v, vs, rfl, Rep.le l2 r1, r2⟩))
/-- x(e, .., k = v, ..) -/
theorem we_clK {x : Str} {p : Pos} {kws : List Keyword} (ks : List Str) (hall : ∀ env, (backToKw pos (keywordEach kws env)).all (·.1.isSome) = true) (hks : ∀ env, (backToKw pos (keywordEach kws env)).filterMap (·.1) = ks) (hlen : kws.length = ks.length)
    (he : ∀ env, starEach (e :: es) env = (false, eval e env) :: starEach es env) (hpl : ∀ env, ((backTo pos (starEach (e :: es) env)).any (·.1) || (backToKw pos (keywordEach kws env)).any (·.1.isNone)) = false)
    (h : WE C X (.Name x p) Γ O fun d O1 => ∃ f, d = .ref f ∧ PySem.W.keepIn C.M.K (.ref f) = true ∧ WA C X (e :: es) Γ O1 fun ds O2 => WK C X kws Γ O2 fun zs O3 => zs.length = ks.length ∧ CB C f ds ks zs Γ O3 Q) : WE C X (.Call (.Name x p) (e :: es) kws pos) Γ O Q := .mk fun ok σ H S k hk pins s I => by
  refine wpAny_Call_Name_kw (thn (h ok σ H S (fun v H1 => ∃ f, v = .ref f ∧ PySem.W.keepIn X.K (.ref f) = true ∧ AW X (e :: es) σ H1 fun vs H2 => KW X kws σ H2 fun zs H3 => zs.length = ks.length ∧ CallK C X f ks σ k vs zs H3) (fun v H1 d O1 q1 S1 l1 r1 => ?_) pins s I) fun u s1 ⟨v, H1, I1, r1, f, ev, kp, q⟩ => ?_)
  · obtain ⟨f, rfl, kp, q⟩ := q1
    refine ⟨f, rep_ref.mp r1, by rw [ok.K]; exact kp, ?_⟩
    refine q ok σ H1 S1 _ fun vs H2 ds O2 q2 S2 l2 r2 => ?_
    refine q2 ok σ H2 S2 _ fun zs H3 es O3 q3 S3 l3 r3 => ?_
    exact ⟨by rw [reps_len r3]; exact q3.1, q3.2.call ok S3 (hk.le ((l1.trans l2).trans l3)) (Reps.le l3 r2) r3⟩
  · subst ev
    cases r1
    refine PySem.W.callWith_KW (h₀ := X.base) I.ok.mod.kin kp (hall _) (thn (q pos pins s1 I1) fun us s2 ⟨vs, H2, I2, r, q2⟩ => thn (q2 pos pins s2 I2) fun ws s3 ⟨zs, H3, I3, rz, hz, q3⟩ => ⟨I3.kIn, ?_⟩) (hpl _) (he _)
    rw [hks]
    exact q3 pins s3 us ws I3 r rz hz
theorem we_clK0 {x : Str} {p : Pos} {kws : List Keyword} (ks : List Str) (hall : ∀ env, (backToKw pos (keywordEach kws env)).all (·.1.isSome) = true) (hks : ∀ env, (backToKw pos (keywordEach kws env)).filterMap (·.1) = ks)
    (hpl : ∀ env, ((backTo pos (starEach [] env)).any (·.1) || (backToKw pos (keywordEach kws env)).any (·.1.isNone)) = false)
    (h : WE C X (.Name x p) Γ O fun d O1 => ∃ f, d = .ref f ∧ PySem.W.keepIn C.M.K (.ref f) = true ∧ WK C X kws Γ O1 fun zs O3 => zs.length = ks.length ∧ CB C f [] ks zs Γ O3 Q) : WE C X (.Call (.Name x p) [] kws pos) Γ O Q := .mk fun ok σ H S k hk pins s I => by
  refine wpAny_Call_Name_kw (thn (h ok σ H S (fun v H1 => ∃ f, v = .ref f ∧ PySem.W.keepIn X.K (.ref f) = true ∧ KW X kws σ H1 fun zs H3 => zs.length = ks.length ∧ CallK C X f ks σ k [] zs H3) (fun v H1 d O1 q1 S1 l1 r1 => ?_) pins s I) fun u s1 ⟨v, H1, I1, r1, f, ev, kp, q⟩ => ?_)
  · obtain ⟨f, rfl, kp, q⟩ := q1
    refine ⟨f, rep_ref.mp r1, by rw [ok.K]; exact kp, ?_⟩
    refine q ok σ H1 S1 _ fun zs H3 es O3 q3 S3 l3 r3 => ?_
    exact ⟨by rw [reps_len r3]; exact q3.1, q3.2.call ok S3 (hk.le (l1.trans l3)) (reps_nil.mpr rfl) r3⟩
  · subst ev
    cases r1
    refine PySem.W.callWith_KW0 (h₀ := X.base) I.ok.mod.kin kp (hall _) (thn (q pos pins s1 I1) fun ws s3 ⟨zs, H3, I3, rz, hz, q3⟩ => ⟨I3.kIn, ?_⟩) (hpl _)
    rw [hks]
    exact q3 pins s3 [] ws I3 .nil rz hz

/-! ### methods, classmethods, properties -/
/-- o.m(..): how the node is run -/
def MethNode (o : Expr) (m : Str) (p pos : Pos) (args : List Expr) (kws : List Keyword) (pl : Env → Sem Bool) : Prop :=
  ∀ env, eval (.Call (.Attribute o m p) args kws pos) env = (do
      let ov ← eval o env
      standAt p.atName
      let (f, first) ← holding [ov] (getMethod ov m (pl env))
      callWith pos f first (backTo pos (starEach args env)) (backToKw pos (keywordEach kws env)))
/-- o.m(e, ..), o an instance of an own class -/
theorem we_meth {m : Str} {p : Pos} {pl : Env → Sem Bool} {o : Expr} (hb : MethNode o m p pos (e :: es) [] pl)
    (he : ∀ env, starEach (e :: es) env = (false, eval e env) :: starEach es env) (hpl : ∀ env, (backTo pos (starEach es env)).any (·.1) = false)
    (h : WE C X o Γ O fun d O1 => ∃ Cl fs f, Ins O1 d Cl fs ∧ Cls C.M.K Cl ∧ Meth C.M.K Cl m f ∧ fs.lookup m = none ∧ WA C X (e :: es) Γ O1 fun ds O2 => CB C f (d :: ds) [] [] Γ O2 Q) : WE C X (.Call (.Attribute o m p) (e :: es) [] pos) Γ O Q := .mk fun ok σ H S k hk pins s I => by
  refine PySem.W.methodCall_KW (pl := pl X.env) (thn (h ok σ H S (fun x H1 => ∃ a C' dx fs g, x = .ref a ∧ H1 a = some (.ins C' dx fs) ∧ Cls X.K C' ∧ Meth X.K C' m g ∧ fs.lookup m = none ∧
      AW X (e :: es) σ H1 fun vs H2 => CallK C X g [] σ k (.ref a :: vs) [] H2) (fun v H1 d O1 q1 S1 l1 r1 => ?_) pins s I) fun u s1 ⟨x, H1, I1, rx, a, C', dx, fs, g, ex, ea, c, kk, l, q⟩ => ?_) (hb _)
  · obtain ⟨Cl, fs, f, i, cl, mt, no, q⟩ := q1
    obtain ⟨pa, dx, gs, rfl, ea, rf⟩ := i.ok S1.own r1
    refine ⟨pa, Cl, dx, gs, f, rfl, ea, by rw [ok.K]; exact cl, by rw [ok.K]; exact mt, repf_no rf no, ?_⟩
    exact q ok σ H1 S1 _ fun vs H2 ds O2 q2 S2 l2 r2 => q2.call ok S2 (hk.le (l1.trans l2)) (reps_cons.mpr ⟨_, _, rfl, Rep.le l2 r1, r2⟩) (reps_nil.mpr rfl)
  · subst ex
    obtain rfl : u = Value.ref a := rx
    refine getmeth_ok I1 ea c kk l ?_
    exact PySem.W.callWith_K (first := [.ref a]) (h₀ := X.base) I.ok.mod.kin kk.kp (thn (q pos pins s1 I1) fun us s2 ⟨vs, H2, I2, r, q2⟩ => ⟨I2.kIn, q2 pins s2 (.ref a :: us) [] I2 (.cons rfl r) .nil rfl⟩) (he _) (hpl _)
theorem we_meth0 {m : Str} {p : Pos} {pl : Env → Sem Bool} {o : Expr} (hb : MethNode o m p pos [] [] pl)
    (h : WE C X o Γ O fun d O1 => ∃ Cl fs f, Ins O1 d Cl fs ∧ Cls C.M.K Cl ∧ Meth C.M.K Cl m f ∧ fs.lookup m = none ∧ CB C f [d] [] [] Γ O1 Q) : WE C X (.Call (.Attribute o m p) [] [] pos) Γ O Q := .mk fun ok σ H S k hk pins s I => by
  refine PySem.W.methodCall_KW (pl := pl X.env) (thn (h ok σ H S (fun x H1 => ∃ a C' dx fs g, x = .ref a ∧ H1 a = some (.ins C' dx fs) ∧ Cls X.K C' ∧ Meth X.K C' m g ∧ fs.lookup m = none ∧
      CallK C X g [] σ k [.ref a] [] H1) (fun v H1 d O1 q1 S1 l1 r1 => ?_) pins s I) fun u s1 ⟨x, H1, I1, rx, a, C', dx, fs, g, ex, ea, c, kk, l, q⟩ => ?_) (hb _)
  · obtain ⟨Cl, fs, f, i, cl, mt, no, q⟩ := q1
    obtain ⟨pa, dx, gs, rfl, ea, rf⟩ := i.ok S1.own r1
    exact ⟨pa, Cl, dx, gs, f, rfl, ea, by rw [ok.K]; exact cl, by rw [ok.K]; exact mt, repf_no rf no, q.call ok S1 (hk.le l1) (reps_cons.mpr ⟨_, _, rfl, r1, reps_nil.mpr rfl⟩) (reps_nil.mpr rfl)⟩
  · subst ex
    obtain rfl : u = Value.ref a := rx
    refine getmeth_ok I1 ea c kk l ?_
    exact PySem.W.callWith_K0 (first := [.ref a]) I1.kIn kk.kp (q pins s1 [.ref a] [] I1 (.cons rfl .nil) .nil rfl)
/-- o.m(.., k = v) -/
theorem we_methK0 {m : Str} {p : Pos} {pl : Env → Sem Bool} {o : Expr} {kws : List Keyword} (ks : List Str) (hb : MethNode o m p pos [] kws pl) (hall : ∀ env, (backToKw pos (keywordEach kws env)).all (·.1.isSome) = true) (hks : ∀ env, (backToKw pos (keywordEach kws env)).filterMap (·.1) = ks)
    (hpl : ∀ env, ((backTo pos (starEach [] env)).any (·.1) || (backToKw pos (keywordEach kws env)).any (·.1.isNone)) = false)
    (h : WE C X o Γ O fun d O1 => ∃ Cl fs f, Ins O1 d Cl fs ∧ Cls C.M.K Cl ∧ Meth C.M.K Cl m f ∧ fs.lookup m = none ∧ WK C X kws Γ O1 fun zs O3 => zs.length = ks.length ∧ CB C f [d] ks zs Γ O3 Q) : WE C X (.Call (.Attribute o m p) [] kws pos) Γ O Q := .mk fun ok σ H S k hk pins s I => by
  refine PySem.W.methodCall_KW (pl := pl X.env) (thn (h ok σ H S (fun x H1 => ∃ a C' dx fs g, x = .ref a ∧ H1 a = some (.ins C' dx fs) ∧ Cls X.K C' ∧ Meth X.K C' m g ∧ fs.lookup m = none ∧
      KW X kws σ H1 fun zs H3 => zs.length = ks.length ∧ CallK C X g ks σ k [.ref a] zs H3) (fun v H1 d O1 q1 S1 l1 r1 => ?_) pins s I) fun u s1 ⟨x, H1, I1, rx, a, C', dx, fs, g, ex, ea, c, kk, l, q⟩ => ?_) (hb _)
  · obtain ⟨Cl, fs, f, i, cl, mt, no, q⟩ := q1
    obtain ⟨pa, dx, gs, rfl, ea, rf⟩ := i.ok S1.own r1
    refine ⟨pa, Cl, dx, gs, f, rfl, ea, by rw [ok.K]; exact cl, by rw [ok.K]; exact mt, repf_no rf no, ?_⟩
    exact q ok σ H1 S1 _ fun zs H3 es O3 q3 S3 l3 r3 => ⟨by rw [reps_len r3]; exact q3.1, q3.2.call ok S3 (hk.le (l1.trans l3)) (reps_cons.mpr ⟨_, _, rfl, Rep.le l3 r1, reps_nil.mpr rfl⟩) r3⟩
  · subst ex
    obtain rfl : u = Value.ref a := rx
    refine getmeth_ok I1 ea c kk l ?_
    refine PySem.W.callWith_KW0 (first := [.ref a]) (h₀ := X.base) I.ok.mod.kin kk.kp (hall _) (thn (q pos pins s1 I1) fun ws s3 ⟨zs, H3, I3, rz, hz, q3⟩ => ⟨I3.kIn, ?_⟩) (hpl _)
    rw [hks]
    exact q3 pins s3 [.ref a] ws I3 (.cons rfl .nil) rz hz
/-- o.m(e, ..), o a class, m a classmethod -/
theorem we_cm {m : Str} {p : Pos} {pl : Env → Sem Bool} {o : Expr} (hb : MethNode o m p pos (e :: es) [] pl)
    (he : ∀ env, starEach (e :: es) env = (false, eval e env) :: starEach es env) (hpl : ∀ env, (backTo pos (starEach es env)).any (·.1) = false)
    (h : WE C X o Γ O fun d O1 => ∃ Cl mc pr g, d = .ref Cl ∧ ClX.CRead C.M.K Cl mc ∧ ClX.CMet C.M.K Cl mc m pr g ∧ WA C X (e :: es) Γ O1 fun ds O2 => CB C g (.ref Cl :: ds) [] [] Γ O2 Q) : WE C X (.Call (.Attribute o m p) (e :: es) [] pos) Γ O Q := .mk fun ok σ H S k hk pins s I => by
  refine PySem.W.methodCall_KW (pl := pl X.env) (thn (h ok σ H S (fun x H1 => ∃ Cl mc pr g, x = .ref Cl ∧ ClX.CRead X.K Cl mc ∧ ClX.CMet X.K Cl mc m pr g ∧
      AW X (e :: es) σ H1 fun vs H2 => ∀ (pins : List (Addr × Obj)) (s : Shared) (us : List Value), Inv X pins σ H2 s → Vals vs us → codeAny (model X.prog X.w) X.A (.call (.ref g) ⟨.ref Cl :: us, []⟩) (RF X pins σ k) s) (fun v H1 d O1 q1 S1 l1 r1 => ?_) pins s I) fun u s1 ⟨x, H1, I1, rx, Cl, mc, pr, g, ex, cr, cm, q⟩ => ?_) (hb _)
  · obtain ⟨Cl, mc, pr, g, rfl, cr, cm, q⟩ := q1
    refine ⟨Cl, mc, pr, g, rep_ref.mp r1, by rw [ok.K]; exact cr, by rw [ok.K]; exact cm, ?_⟩
    exact q ok σ H1 S1 _ fun vs H2 ds O2 q2 S2 l2 r2 pins s us I2 rv => q2 X ok σ H2 S2 (.ref Cl :: vs) (by rw [List.append_nil]; exact reps_cons.mpr ⟨_, _, rfl, rep_ref.mpr rfl, r2⟩) k (hk.le (l1.trans l2)) X.A pins s (.ref Cl :: us) [] (.inl rfl) I2 (by rw [List.append_nil]; exact .cons rfl rv) rfl
  · subst ex
    obtain rfl : u = Value.ref Cl := rx
    refine ClX.getmethcm_ok I1 cr cm fun s2 I2 => ?_
    refine ClX.callwith_cm I2 (ClX.base_none I1 (Nat.le_refl _)) cm.fi (thn (q pos _ s2 I2) fun us s3 ⟨vs, H2, I3, rv, q2⟩ => ⟨⟨ClX.pin_at I3, I3.kIn⟩, ?_⟩) (he _) (hpl _)
    refine wpAny_call (PySem.W.method_call (ClX.pin_at I3) (codeAny_mono (q2 pins s3 us (ClX.unpin I3) rv) fun rs s' qq => ?_))
    match rs, qq with
    | .error e, qq => exact qq
    | .ok (.ret u), qq => exact qq
/-- o.f, a property of o's own class -/
theorem we_prop {f : Str} {o : Expr} (hb : ∀ env, attributeBase o f env (eval o env) = eval o env)
    (h : WE C X o Γ O fun d O1 => ∃ Cl fs pr g, Ins O1 d Cl fs ∧ Cls C.M.K Cl ∧ PropOf C.M.K Cl f pr g ∧ CP C g [d] Γ O1 Q) : WE C X (.Attribute o f pos) Γ O Q := .mk fun ok σ H S k hk pins s I => by
  refine attr_of (hb _) (thn (h ok σ H S (fun x H1 => ∃ a C' dx fs pr g, x = .ref a ∧ H1 a = some (.ins C' dx fs) ∧ Cls X.K C' ∧ PropOf X.K C' f pr g ∧
    ∀ (pins : List (Addr × Obj)) (s : Shared), Inv X pins σ H1 s → codeAny (model X.prog X.w) X.A.in1 (.call (.ref g) ⟨[.ref a], []⟩) (RN X pins σ k) s) (fun v H1 d O1 q1 S1 l1 r1 => ?_) pins s I) fun u s1 ⟨x, H1, I1, rx, a, C', dx, fs, pr, g, ex, ea, c, hp, q⟩ => ?_)
  · obtain ⟨Cl, fs, pr, g, i, cl, hp, q⟩ := q1
    obtain ⟨pa, dx, gs, rfl, ea, rf⟩ := i.ok S1.own r1
    exact ⟨pa, Cl, dx, gs, pr, g, rfl, ea, by rw [ok.K]; exact cl, by rw [ok.K]; exact hp, fun pins s I => q X ok σ H1 S1 [.ref pa] (reps_cons.mpr ⟨_, _, rfl, r1, reps_nil.mpr rfl⟩) k (hk.le l1) X.A.in1 pins s [.ref pa] (.inr rfl) I (.cons rfl .nil)⟩
  · subst ex
    obtain rfl : u = Value.ref a := rx
    obtain ⟨mA, Ob, _, _, _, _⟩ := ins_get I1.hok ea
    obtain ⟨od, J, _⟩ := Ob.look
    obtain ⟨rest, hrec⟩ := hp.rec_
    have I2 := I1.tok (s1.toks + 1)
    have hc : (PySem.W.clsIn X.K C').isSome = true := by
      obtain ⟨cd, hc, _⟩ := PySem.W.any_some c.hd
      rw [hc]; rfl
    refine PySem.W.get_bind I1.kIn J (PySem.W.plainGet_of (c.get f)).1 (PySem.W.findObj_data hc hp.at_ hp.get hp.tak) (PySem.W.plainGet_of (c.get f)).2 (wpAny_call (PySem.W.prop_get (s := { s1 with toks := s1.toks + 1 }) I1.kIn hrec ?_))
    refine codeAny_mono (q pins _ I2) fun rs s' hq => ?_
    match rs, hq with
    | .ok (.ret u), hq =>
      obtain ⟨v, H', I3, rv, q3⟩ := hq
      show wpAny _ _ (handedOut u) _ _ _
      rw [PySem.W.handedOut_of (handed_of rv)]
      exact wpAny_pure ⟨v, H', I3, rv, q3⟩

/-! ### a def's body -/
/-- the names at the entry -/
def start_ (N : List Str) (ds : List D) : En := N.zip (ds.map some ++ List.replicate (N.length - ds.length) none)
/-- the scope's check, by computation -/
structure Sco (N Vs ps Gs : List Str) (sc : Scope) : Prop where
  fs : FnScope N ps sc
  loc : ∀ x ∈ Vs, Loc sc x
  dbg : ∀ x ∈ Vs, (x == ("__debug__" : Str)) = false ∧ (x == ("__classdict__" : Str)) = false
  gl : ∀ x ∈ Gs, sc.names.lookup x = some .globalImplicit ∧ (x == ("__debug__" : Str)) = false
def scoB (N Vs ps Gs : List Str) (sc : Scope) : Bool :=
  decide (sc.kind = .function) && !sc.isCoroutine && !sc.isGenerator && decide N.Nodup && decide (N.take ps.length = ps) && ps.all (fun x => sc.names.lookup x == some .local || sc.names.lookup x == some .cell) &&
  sc.names.all (fun y => y.2 != .free) && Vs.all (fun x => (sc.names.lookup x == some .local || sc.names.lookup x == some .cell) && !(x == ("__debug__" : Str)) && !(x == ("__classdict__" : Str))) &&
  Gs.all (fun x => sc.names.lookup x == some .globalImplicit && !(x == ("__debug__" : Str)))
theorem sco_of {N Vs ps Gs : List Str} {sc : Scope} (h : scoB N Vs ps Gs sc = true) : Sco N Vs ps Gs sc := by
  unfold scoB at h
  simp only [Bool.and_eq_true, decide_eq_true_eq, Bool.not_eq_true', List.all_eq_true, Bool.or_eq_true, beq_iff_eq, bne_iff_ne, ne_eq] at h
  obtain ⟨⟨⟨⟨⟨⟨⟨⟨h1, h2⟩, h3⟩, h4⟩, h5⟩, h6⟩, h7⟩, h8⟩, h9⟩ := h
  exact ⟨⟨h1, h2, h3, h4, h5, h6, h7⟩, fun x hx => (h8 x hx).1.1, fun x hx => ⟨(h8 x hx).1.2, (h8 x hx).2⟩, fun x hx => ⟨(h9 x hx).1, (h9 x hx).2⟩⟩
theorem start_sl {K : PySem.W.Frag} {P : Addr → Prop} {H : Hp} : ∀ {N : List Str} {ds : List D} {vs : List V}, ds.length ≤ N.length → Reps K P H ds vs → RepSl K P H (start_ N ds) (L2.start N vs) ∧ (start_ N ds).map (·.1) = N
  | N, [], vs, _, r => by
    rw [reps_nil] at r
    subst r
    unfold start_ L2.start
    simp only [List.map_nil, List.nil_append, List.length_nil, Nat.sub_zero]
    induction N with
    | nil => exact ⟨by simp [RepSl], rfl⟩
    | cons x N ih =>
      refine ⟨?_, ?_⟩
      · simp only [List.length_cons, List.replicate_succ, List.zip_cons_cons, RepSl]
        exact ⟨none, _, rfl, (ih (Nat.zero_le _)).1⟩
      · simp only [List.length_cons, List.replicate_succ, List.zip_cons_cons, List.map_cons]
        rw [(ih (Nat.zero_le _)).2]
  | [], d :: ds, _, h, _ => by simp at h
  | x :: N, d :: ds, vs, h, r => by
    rw [reps_cons] at r
    obtain ⟨v, ws, rfl, a, r⟩ := r
    obtain ⟨i1, i2⟩ := start_sl (N := N) (by simpa using h) r
    have e1 : start_ (x :: N) (d :: ds) = (x, some d) :: start_ N ds := by
      unfold start_
      simp only [List.map_cons, List.length_cons, List.cons_append, List.zip_cons_cons, Nat.add_sub_add_right]
    have e2 : L2.start (x :: N) (v :: ws) = some v :: L2.start N ws := by
      unfold L2.start
      simp only [List.map_cons, List.length_cons, List.cons_append, Nat.add_sub_add_right]
    rw [e1, e2]
    refine ⟨?_, by rw [List.map_cons, i2]⟩
    simp only [RepSl]
    exact ⟨v, _, rfl, a, i1⟩
/-- what a body may lean on -/
abbrev cdOf (M : Md) (k : Nat) (sc : Scope) (N Vs Gs : List Str) (O : Own) (H : Hp) (ED : Exn → Own → Prop) : CD := { M := M, k := k, sc := sc, N := N, Vs := Vs, Ls := Vs, Gs := Gs, O0 := O, H0 := H, ED := fun x _ O' => ED x O', top := true }
theorem ok_of {M : Md} {N Vs ps Gs : List Str} {qual : Str} {scope : Scope} {f : Addr} {cd : Value} {A : Around} {outer : List Env} {s : Shared} {H : Hp} {E : XK} {k : Nat} {O : Own} {ED : Exn → Own → Prop} (S : Sco N Vs ps Gs scope)
    (hr : Room k (A.deeper (envOfC qual scope s.heap.objs.size f cd))) (hg : A.guards = some []) (hE : ∀ cls dx H' x O', ED x O' → OwnOk M.K O' H' → Le O H O' H' → RepX M.K O' H' x cls dx → E cls dx H') :
    Ok (cdOf M k scope N Vs Gs O H ED) (cxOf (L2.CX M.P M.w) M.P M.w M.K M.mg M.base N qual scope f cd A outer s H E) where
  prog := rfl
  w := rfl
  K := rfl
  mg := rfl
  base := rfl
  N := rfl
  nd := S.fs.nd
  sc := rfl
  vis := fun x hx => ⟨by rcases S.loc x hx with h | h; exact .inl h; exact .inr (.inl h), S.dbg x hx⟩
  loc := fun x hx => ⟨S.loc x hx, .inl rfl⟩
  gl := S.gl
  calm := rfl
  room := hr
  grd := hg
  thr := fun σ EK h => by
    have tk : Takes (cxOf (L2.CX M.P M.w) M.P M.w M.K M.mg M.base N qual scope f cd A outer s H E) (fun cls d _ H' => E cls d H') := takes_of rfl rfl rfl rfl
    intro pins H1 s1 e s2 I c
    refine tk e s2 (XE.of_call I (fun cls d H' z => ?_) c)
    obtain ⟨x, Γ, O', q, S', r⟩ := h cls d H' z
    exact hE cls d H' x O' q S'.own S'.le r
  own := passes_of rfl
  tk := (takes_of rfl rfl rfl rfl).imp fun cls d σ H' ⟨x, Γ, O', q, S', r⟩ => hE cls d H' x O' q S'.own S'.le r
  stk := fun _ => ⟨rfl, rfl, rfl⟩
  lm := fun c P q z => nomatch z
/-- THE RULE: the def st at f keeps the promise T -/
theorem fn_body {M : Md} {x qual : Str} {st : Stmt} {f : Addr} {fd : FuncData} {N Vs ps Gs : List Str} {k : Nat} {T : TF} (F : Fun M.K x qual st f fd) (S : Sco N Vs ps Gs (defScope st))
    (len : ∀ ds O Q E, T ds O Q E → ds.length = ps.length)
    (body : ∀ ds O QD ED, T ds O QD ED → ∀ H X, WSs (cdOf M k (defScope st) N Vs Gs O H ED) X (defBody st) (start_ N ds) O { nx := fun _ O' => QD .non O', rt := QD }) : FnG M (k + 1) f fd ps (spD M.K T) := by
  obtain ⟨oc, od, kV, doc, pm, an, cdv, ct, osl, rfl, lk, hcd⟩ := F.ex
  have len' : ∀ vs H Q E, spD M.K T vs H Q E → vs.length = ps.length := fun vs H Q E h => by
    obtain ⟨ds, O, QD, ED, _, r, t, _⟩ := h
    rw [reps_len r, len _ _ _ _ t]
  refine ⟨len', fun A outer s H args us vs Q E hr hg e0 hb rv h => ?_⟩
  have hl := len' _ _ _ _ h
  have KX : M.K.In s.heap := e0.mod.kin.keeps fun b o e => (e0.bs b o e).1
  have lim : s.heap.NoLimit := e0.mod.nolimit.keeps fun b o e => (e0.bs b o e).1
  refine codeAny_call_function hr.depth (KX _ _ lk) rfl S.fs.co S.fs.gen rfl (PySem.W.codeRec_of KX hcd) (hb _ _ _ _ ?_)
  refine wpAny_newFunctionEnv_cells S.fs.kind (fun ⟨n, v⟩ hy => ?_) fun env he s1 x => ?_
  · rcases S.fs.par n (List.of_mem_zip hy).1 with q | q
    · exact .inl q
    · exact .inr ⟨q, PySem.W.cellsFrom_some _ _ _ (.inl q)⟩
  subst he
  refine ⟨lim.keeps x.toInCall.keep, codeAny_func ?_⟩
  obtain ⟨ds, O, QD, ED, w, r, t, hQ, hE⟩ := h
  have hl2 : ds.length ≤ N.length := by
    rw [len _ _ _ _ t]
    have := congrArg List.length S.fs.pre
    rw [List.length_take] at this
    omega
  obtain ⟨s1', s2⟩ := start_sl hl2 r
  have I : Inv (cxOf (L2.CX M.P M.w) M.P M.w M.K M.mg M.base N qual (defScope st) f cdv A outer s H E) [] (L2.start N vs) H s1 := inv_start S.fs hr.hd e0 hl rv x
  have run := body ds O QD ED t H _ (ok_of (qual := qual) (f := f) (cd := cdv) (outer := outer) (s := s) S (hr.deeper _) hg hE) _ H ⟨s2, s1', w, Le.refl _ _⟩ { nx := fun _ H' => Q .non H', rt := Q } ⟨fun σ' H' Γ O' q S' => hQ .non H' .non O' q S'.own S'.le (rep_non.mpr rfl), fun v H' d O' q w' l' r' => hQ v H' d O' q w' l' r', fun _ _ _ _ q _ => q.elim, fun _ _ _ _ q _ => q.elim⟩
  refine wpAny_mono (run [] s1 I) (fun fl s' hs => ?_) fun e s' hs => hs
  match fl, hs with
  | .ret u, hs =>
    obtain ⟨v, σ', H', J, rv', q⟩ := hs
    exact ⟨v, H', J.os, J.bare, J.base, J.hok, rv', q⟩
  | .next, hs =>
    obtain ⟨σ', H', J, q⟩ := hs
    exact ⟨V.non, H', J.os, J.bare, J.base, J.hok, rfl, q⟩
  | .brk, hs =>
    obtain ⟨_, _, _, q⟩ := hs
    exact False.elim q
  | .cont, hs =>
    obtain ⟨_, _, _, q⟩ := hs
    exact False.elim q
end
end DL
namespace DL
open PySem PySem.Spec PyProof.Rows L2

/-! ### what is walked -/
/-- the iterator J yields the data ds, in turn, from the state (O1, H1) on, while the source stands -/
structure GenJ (K : PySem.W.Frag) (J : It) (O1 : Own) (H1 : Hp) (Src : Own → Prop) (ds : List D) : Prop where
  go : ∀ O H i, OwnOk K O H → Le O1 H1 O H → Src O → i < ds.length → J.go i H
  yld : ∀ O H i x H', OwnOk K O H → Le O1 H1 O H → Src O → i < ds.length → J.yld i H x H' → ∃ d, ds[i]? = some d ∧ Rep K O.has H' d x ∧ OwnOk K O H' ∧ Le O H O H'
  stop : ∀ O H i, OwnOk K O H → Le O1 H1 O H → Src O → ds.length ≤ i → J.stop i H
def IW (X : Cx) (tg iter : Expr) (σ : St) (H : Hp) (R : It → Hp → Prop) : Prop :=
  ∀ (pins : List (Addr × Obj)) (s : Shared), Inv X pins σ H s → wpAny (model X.prog X.w) X.A (eval iter X.env) (fun v s1 => wpAny (model X.prog X.w) X.A (pyIter v) (PIE X pins σ tg R) X.xe s1) X.xe s
theorem pi_iw {X : Cx} {tg iter : Expr} : PI X tg iter (IW X tg iter) := ⟨fun pins s _ _ _ I h => h pins s I⟩
theorem iw_of {X : Cx} {tg iter : Expr} {t : TI} {σ : St} {H : Hp} {R : It → Hp → Prop} (p : PI X tg iter t) (h : t σ H R) : IW X tg iter σ H R := fun pins s I => p.run pins s σ H R I h
structure WI (C : CD) (X : Cx) (tg iter : Expr) (Γ : En) (O : Own) (R : List D → (Own → Prop) → Own → Prop) : Prop where
  run :
    Ok C X → ∀ σ H, Sat C Γ O σ H → ∀ k : It → Hp → Prop, (∀ J H1 ds Src O1, R ds Src O1 → Sat C Γ O1 σ H1 → Le O H O1 H1 → GenJ C.M.K J O1 H1 Src ds → k J H1) → IW X tg iter σ H k
instance {C : CD} {X : Cx} {tg iter : Expr} {Γ : En} {O : Own} {R : List D → (Own → Prop) → Own → Prop} : CoeFun (WI C X tg iter Γ O R) (fun _ =>
  Ok C X → ∀ σ H, Sat C Γ O σ H → ∀ k : It → Hp → Prop, (∀ J H1 ds Src O1, R ds Src O1 → Sat C Γ O1 σ H1 → Le O H O1 H1 → GenJ C.M.K J O1 H1 Src ds → k J H1) → IW X tg iter σ H k) := ⟨WI.run⟩

theorem genJ_list {K : PySem.W.Frag} {O1 : Own} {H1 : Hp} {p : Addr} {xs : List V} {ds : List D} {Src : Own → Prop} (h : ∀ O H, OwnOk K O H → Le O1 H1 O H → Src O → ∃ xs, SqL K H p xs ∧ Reps K O.has H ds xs) : GenJ K (Itl K p) O1 H1 Src ds where
  go := fun O H i w l s hi => by
    obtain ⟨xs, hq, hr⟩ := h O H w l s
    have hl := reps_len hr
    exact ⟨xs, xs[i]'(by omega), hq, List.getElem?_eq_getElem _⟩
  yld := fun O H i x H' w l s hi y => by
    obtain ⟨xs, hq, hr⟩ := h O H w l s
    obtain ⟨rfl, y⟩ := y
    obtain ⟨d, h1, h2⟩ := reps_get' hr (y xs hq)
    exact ⟨d, h1, h2, w, Le.refl _ _⟩
  stop := fun O H i w l s hi => by
    obtain ⟨xs, hq, hr⟩ := h O H w l s
    exact ⟨xs, hq, by rw [reps_len hr]; exact hi⟩
theorem genJ_tup {K : PySem.W.Frag} {O1 : Own} {H1 : Hp} {p : Addr} {xs : List V} {ds : List D} {Src : Own → Prop} (h : ∀ O H, OwnOk K O H → Le O1 H1 O H → Src O → ∃ xs, SqT K H p xs ∧ Reps K O.has H ds xs) : GenJ K (Itt K p) O1 H1 Src ds where
  go := fun O H i w l s hi => by
    obtain ⟨xs, hq, hr⟩ := h O H w l s
    have hl := reps_len hr
    exact ⟨xs, xs[i]'(by omega), hq, List.getElem?_eq_getElem _⟩
  yld := fun O H i x H' w l s hi y => by
    obtain ⟨xs, hq, hr⟩ := h O H w l s
    obtain ⟨rfl, y⟩ := y
    obtain ⟨d, h1, h2⟩ := reps_get' hr (y xs hq)
    exact ⟨d, h1, h2, w, Le.refl _ _⟩
  stop := fun O H i w l s hi => by
    obtain ⟨xs, hq, hr⟩ := h O H w l s
    exact ⟨xs, hq, by rw [reps_len hr]; exact hi⟩
/-- lo, lo + 1, .. -/
def rngD (lo : Int) (n : Nat) : List D := (List.range n).map fun (i : Nat) => D.int (lo + (i : Int))
theorem rngD_len {lo : Int} {n : Nat} : (rngD lo n).length = n := by simp [rngD]
theorem rngD_get {lo : Int} {n i : Nat} (h : i < n) : (rngD lo n)[i]? = some (.int (lo + (i : Int))) := by simp [rngD, h]
theorem rngD_get' {lo : Int} {n i : Nat} {d : D} (h : (rngD lo n)[i]? = some d) : d = .int (lo + (i : Int)) ∧ i < n := by
  have hi : i < n := by
    have := (List.getElem?_eq_some_iff.mp h).1
    rwa [rngD_len] at this
  rw [rngD_get hi] at h
  exact ⟨(Option.some.inj h).symm, hi⟩
theorem genJ_rng {K : PySem.W.Frag} {O1 : Own} {H1 : Hp} {Src : Own → Prop} {lo : Int} {n : Nat} : GenJ K (Itr lo n) O1 H1 Src (rngD lo n) where
  go := fun O H i w l s hi => by rw [rngD_len] at hi; exact hi
  yld := fun O H i x H' w l s hi y => by
    rw [rngD_len] at hi
    obtain ⟨rfl, rfl⟩ := y
    exact ⟨_, rngD_get hi, rep_int.mpr rfl, w, Le.refl _ _⟩
  stop := fun O H i w l s hi => by rw [rngD_len] at hi; exact hi

section
variable {C : CD} {X : Cx} {Γ Γ' : En} {O : Own} {Q : D → Own → Prop} {QT : Bool → Own → Prop} {QA : List D → Own → Prop} {R : List D → (Own → Prop) → Own → Prop} {N : De} {pos : Pos} {a b c e tg iter : Expr} {es : List Expr} {σ : St} {H : Hp}
theorem wi_lst (h : WE C X iter Γ O fun d O1 => ∃ ds, (d = .lst ds ∨ d = .klst ds) ∧ R ds (fun _ => True) O1) : WI C X tg iter Γ O R := .mk fun ok σ H S k hk =>
  iw_of (pi_list pe_ew) (h ok σ H S _ fun v H1 d O1 q1 S1 l1 r1 => by
    obtain ⟨ds, hd, q⟩ := q1
    have hd' : SqLs O1 d ds := by rcases hd with rfl | rfl; exact .lst; exact .klst
    obtain ⟨p, xs, rfl, sq, rx⟩ := hd'.ok S1.own r1
    refine ⟨p, rfl, ⟨xs, by rw [ok.K]; exact sq⟩, ?_⟩
    rw [ok.K]
    refine hk _ H1 ds _ O1 q S1 l1 (genJ_list (xs := xs) fun O2 H2 w l _ => ?_)
    have hd2 : SqLs O2 d ds := by rcases hd with rfl | rfl; exact .lst; exact .klst
    obtain ⟨p', xs', e, sq', rx'⟩ := hd2.ok w (Rep.le l r1)
    cases e
    exact ⟨xs', sq', rx'⟩)
/-- over an owned list that the loop leaves as it is -/
theorem wi_own (h : WE C X iter Γ O fun d O1 => ∃ p ds, d = .ref p ∧ OAt O1 p (.lst ds) ∧ R ds (fun O' => OAt O' p (.lst ds)) O1) : WI C X tg iter Γ O R := .mk fun ok σ H S k hk =>
  iw_of (pi_list pe_ew) (h ok σ H S _ fun v H1 d O1 q1 S1 l1 r1 => by
    obtain ⟨p, ds, rfl, oa, q⟩ := q1
    rw [rep_ref] at r1
    obtain ⟨xs, e, rx⟩ := S1.own.at_ _ _ oa.mem
    refine ⟨p, r1, ⟨xs, by rw [ok.K]; exact .inl (.inl e)⟩, ?_⟩
    rw [ok.K]
    refine hk _ H1 ds _ O1 q S1 l1 (genJ_list (xs := xs) fun O2 H2 w l oa' => ?_)
    obtain ⟨xs', e', rx'⟩ := w.at_ _ _ oa'.mem
    exact ⟨xs', .inl (.inl e'), rx'⟩)
theorem wi_tup (h : WE C X iter Γ O fun d O1 => ∃ ds, (d = .tup ds ∨ d = .ktup ds) ∧ R ds (fun _ => True) O1) : WI C X tg iter Γ O R := .mk fun ok σ H S k hk =>
  iw_of (pi_tup pe_ew) (h ok σ H S _ fun v H1 d O1 q1 S1 l1 r1 => by
    obtain ⟨ds, hd, q⟩ := q1
    have hd' : ∀ O, SqTs O d ds := fun O => by rcases hd with rfl | rfl; exact .tup; exact .ktup
    obtain ⟨p, xs, rfl, sq, rx⟩ := (hd' O1).ok r1
    refine ⟨p, rfl, ⟨xs, by rw [ok.K]; exact sq⟩, ?_⟩
    rw [ok.K]
    refine hk _ H1 ds _ O1 q S1 l1 (genJ_tup (xs := xs) fun O2 H2 w l _ => ?_)
    obtain ⟨p', xs', e, sq', rx'⟩ := (hd' O2).ok (Rep.le l r1)
    cases e
    exact ⟨xs', sq', rx'⟩)
theorem wi_rng1 {p : Pos} (hm : C.M.mg "range" = none) (g : ("range" : Str) ∈ C.Gs) (hs : ∀ env, starEach [a] env = [(false, eval a env)])
    (h : WA C X [a] Γ O fun ds O1 => ∃ j : Int, ds = [.int j] ∧ -(2 ^ 62) ≤ j ∧ j < 2 ^ 62 ∧ R (rngD 0 j.toNat) (fun _ => True) O1) : WI C X tg (.Call (.Name "range" p) [a] [] pos) Γ O R := .mk fun ok σ H S k hk =>
  iw_of (pi_range1 (ok.gl _ g).1 (by rw [ok.mg]; exact hm) pa_aw (hs _)) (h ok σ H S _ fun vs H1 ds O1 q1 S1 l1 r1 => by
    obtain ⟨j, rfl, h1, h2, q⟩ := q1
    rw [reps_cons] at r1
    obtain ⟨x, r, rfl, rx, rr⟩ := r1
    rw [rep_int] at rx
    rw [reps_nil] at rr
    subst rx; subst rr
    exact ⟨j, rfl, h1, h2, hk _ H1 _ _ O1 q S1 l1 genJ_rng⟩)
theorem wi_rng2 {p : Pos} (hm : C.M.mg "range" = none) (g : ("range" : Str) ∈ C.Gs) (hs : ∀ env, starEach [a, b] env = [(false, eval a env), (false, eval b env)]) (hs2 : ∀ env, starEach [b] env = [(false, eval b env)])
    (h : WA C X [a, b] Γ O fun ds O1 => ∃ i j : Int, ds = [.int i, .int j] ∧ (-(2 ^ 62) ≤ i ∧ i < 2 ^ 62 ∧ -(2 ^ 62) ≤ j ∧ j < 2 ^ 62) ∧ R (rngD i (j - i).toNat) (fun _ => True) O1) : WI C X tg (.Call (.Name "range" p) [a, b] [] pos) Γ O R := .mk fun ok σ H S k hk =>
  iw_of (pi_range2 (ok.gl _ g).1 (by rw [ok.mg]; exact hm) pa_aw (hs _) (hs2 _)) (h ok σ H S _ fun vs H1 ds O1 q1 S1 l1 r1 => by
    obtain ⟨i, j, rfl, h1, q⟩ := q1
    rw [reps_cons] at r1
    obtain ⟨x, r, rfl, rx, rr⟩ := r1
    rw [reps_cons] at rr
    obtain ⟨y, r2, rfl, ry, rr⟩ := rr
    rw [rep_int] at rx ry
    rw [reps_nil] at rr
    subst rx; subst ry; subst rr
    exact ⟨i, j, rfl, h1, hk _ H1 _ _ O1 q S1 l1 genJ_rng⟩)

/-! ### for -/
/-- told from a later state -/
abbrev CD.at (C : CD) (O1 : Own) (H1 : Hp) : CD := { C with O0 := O1, H0 := H1 }
theorem Sat.down {O1 : Own} {H1 : Hp} {Γ1 : En} {σ1 : St} (S1 : Sat C Γ1 O1 σ1 H1) (S : Sat (C.at O1 H1) Γ O σ H) : Sat C Γ O σ H := ⟨S.nm, S.sl, S.own, S1.le.trans S.le⟩
theorem Ok.at (ok : Ok C X) {O1 : Own} {H1 : Hp} {Γ1 : En} {σ1 : St} (S1 : Sat C Γ1 O1 σ1 H1) : Ok (C.at O1 H1) X :=
  ⟨ok.prog, ok.w, ok.K, ok.mg, ok.base, ok.N, ok.nd, ok.sc, ok.vis, ok.loc, ok.gl, ok.calm, ok.room, ok.grd, fun σ EK h => ok.thr σ EK fun cls d H z => by
    obtain ⟨x, Γ, O, q, S, r⟩ := h cls d H z
    exact ⟨x, Γ, O, q, S1.down S, r⟩, ok.own, ok.tk.imp fun cls d σ H ⟨x, Γ, O, q, S, r⟩ => ⟨x, Γ, O, q, S1.down S, r⟩, ok.stk, ok.lm⟩
theorem EndsOk.at {D : Ends} (hD : EndsOk C N D) {O1 : Own} {H1 : Hp} {Γ1 : En} {σ1 : St} (S1 : Sat C Γ1 O1 σ1 H1) : EndsOk (C.at O1 H1) N D :=
  ⟨fun σ H Γ O q S => hD.nx σ H Γ O q (S1.down S), fun v H d O q w l r => hD.rt v H d O q w (S1.le.trans l) r, fun σ H Γ O q S => hD.bk σ H Γ O q (S1.down S), fun σ H Γ O q S => hD.ct σ H Γ O q (S1.down S)⟩
/-- for tg in iter: body. I: what holds ahead of turn i -/
theorem ws_for {body : List Stmt} (hs : ∀ env x, foldedSetIterable iter env x = pure x)
    (h : WI C X tg iter Γ O fun ds Src O1 => ∃ I : Nat → En → Own → Prop, I 0 Γ O1 ∧ (∀ i Γ' O', I i Γ' O' → Src O') ∧
      (∀ H1 i d Γ' O', ds[i]? = some d → I i Γ' O' → WG (C.at O1 H1) X tg d Γ' O' fun Γ2 O2 => WSs (C.at O1 H1) X body Γ2 O2 { N with nx := I (i + 1), ct := I (i + 1), bk := N.nx }) ∧
      (∀ Γ' O', I ds.length Γ' O' → N.nx Γ' O')) : WS C X (.For tg iter body [] pos) Γ O N := .mk fun ok σ H S D hD =>
  sw_of (ps_for ok.own ok.calm pi_iw pg_gw pss_sws (hs _)) (h ok σ H S _ fun J H1 ds Src O1 q1 S1 l1 gj => by
    obtain ⟨I, h0, hsrc, hst, hend⟩ := q1
    refine ⟨fun i m σ' H' => m = ds.length - i ∧ i ≤ ds.length ∧ ∃ Γ' O', I i Γ' O' ∧ Sat C Γ' O' σ' H' ∧ Le O1 H1 O' H', ⟨ds.length, by simp, Nat.zero_le _, Γ, O1, h0, S1, Le.refl _ _⟩, ?_⟩
    rintro i m σ' H' ⟨rfl, hi, Γ', O', hI, S', l'⟩
    by_cases hlt : i < ds.length
    · refine .inr ⟨gj.go O' H' i S'.own l' (hsrc i Γ' O' hI) hlt, fun σ2 H2 => ∃ Γ2 O2, I (i + 1) Γ2 O2 ∧ Sat C Γ2 O2 σ2 H2 ∧ Le O1 H1 O2 H2, fun σ2 H2 ⟨Γ2, O2, a, b, c⟩ => ⟨ds.length - (i + 1), by omega, rfl, hlt, Γ2, O2, a, b, c⟩, fun x H3 y => ?_⟩
      obtain ⟨d, hd, rd, w3, l3⟩ := gj.yld O' H' i x H3 S'.own l' (hsrc i Γ' O' hI) hlt y
      have S3 : Sat (C.at O1 H1) Γ' O' σ' H3 := ⟨S'.nm, RepSl.le l3 S'.sl, w3, l'.trans l3⟩
      refine hst H1 i d Γ' O' hd hI (ok.at S1) σ' H3 S3 x rd _ fun σ4 H4 Γ4 O4 q4 S4 l4 => ?_
      refine q4 (ok.at S1) σ4 H4 S4 _ ⟨fun σ5 H5 Γ5 O5 q5 S5 => ⟨Γ5, O5, q5, S1.down S5, S5.le⟩, fun v H5 d5 O5 q5 w5 l5 r5 => hD.rt v H5 d5 O5 q5 w5 (S1.le.trans l5) r5, fun σ5 H5 Γ5 O5 q5 S5 => hD.nx σ5 H5 Γ5 O5 q5 (S1.down S5), fun σ5 H5 Γ5 O5 q5 S5 => ⟨Γ5, O5, q5, S1.down S5, S5.le⟩⟩
    · have e : i = ds.length := by omega
      subst e
      exact .inl ⟨gj.stop O' H' _ S'.own l' (hsrc _ Γ' O' hI) (Nat.le_refl _), hD.nx σ' H' Γ' O' (hend Γ' O' hI) S'⟩)
/-- while c: body. I: what holds ahead of a turn, with a measure -/
theorem ws_while {body : List Stmt} (I : Nat → En → Own → Prop) (m0 : Nat) (h0 : I m0 Γ O)
    (hst : ∀ m Γ' O', I m Γ' O' → WT C X c Γ' O' fun t O1 => (t = true → WSs C X body Γ' O1 { N with nx := fun Γ2 O2 => ∃ m', m' < m ∧ I m' Γ2 O2, ct := fun Γ2 O2 => ∃ m', m' < m ∧ I m' Γ2 O2, bk := N.nx }) ∧ (t = false → N.nx Γ' O1)) : WS C X (.While c body [] pos) Γ O N := .mk fun ok σ H S D hD =>
  sw_of (ps_while ok.own pt_tw pss_sws) ⟨fun m σ' H' => ∃ Γ' O', I m Γ' O' ∧ Sat C Γ' O' σ' H', ⟨m0, Γ, O, h0, S⟩, by
    rintro m σ' H' ⟨Γ', O', hI, S'⟩
    refine hst m Γ' O' hI ok σ' H' S' _ fun t H1 O1 q1 S1 l1 => ?_
    cases t with
    | false => exact hD.nx σ' H1 Γ' O1 (q1.2 rfl) S1
    | true =>
      refine ⟨fun σ2 H2 => ∃ Γ2 O2, (∃ m', m' < m ∧ I m' Γ2 O2) ∧ Sat C Γ2 O2 σ2 H2, fun σ2 H2 ⟨Γ2, O2, ⟨m', a, b⟩, c⟩ => ⟨m', a, Γ2, O2, b, c⟩, ?_⟩
      exact q1.1 rfl ok σ' H1 S1 _ ⟨fun σ5 H5 Γ5 O5 q5 S5 => ⟨Γ5, O5, q5, S5⟩, hD.rt, hD.nx, fun σ5 H5 Γ5 O5 q5 S5 => ⟨Γ5, O5, q5, S5⟩⟩⟩
end
end DL
namespace DL
open PySem PySem.Spec PyProof.Rows L2

/-! ### list comprehensions -/
/-- the block of a comprehension in C -/
abbrev CD.blk (C : CD) (scope : Scope) (Vs Ls Gs : List Str) (O : Own) (H : Hp) : CD := { C with sc := relS scope C.sc, Vs := Vs, Ls := Ls, Gs := Gs, O0 := O, H0 := H, ED := fun _ _ _ => False, top := false, lam := none }
def ownIx (N : List Str) (xs : List Str) : List (Str × Nat) := xs.map fun x => (x, N.idxOf x)
def blkB (N : List Str) (sc scope : Scope) (xs Vs Gs : List Str) : Bool :=
  blkC N sc scope (ownIx N xs) && xs.all (fun x => decide (x ∈ N)) && (Vs.all fun x => ((relS scope sc).names.lookup x == some .local || (relS scope sc).names.lookup x == some .cell || (relS scope sc).names.lookup x == some .free) && !(x == ("__debug__" : Str)) && !(x == ("__classdict__" : Str))) &&
  (xs.all fun x => ((relS scope sc).names.lookup x == some .local) || ((relS scope sc).names.lookup x == some .cell && scope.names.lookup x == some .cell)) &&
  (Gs.all fun x => (relS scope sc).names.lookup x == some .globalImplicit && !(x == ("__debug__" : Str)))
theorem ok_blk {C : CD} {X : Cx} (ok : Ok C X) {scope : Scope} {xs Vs Gs : List Str} (hB : blkB C.N C.sc scope xs Vs Gs = true) (s : Shared) (Hs : Hp) (Cc : Addr) (cl : List (Str × Addr)) (fp : List Addr) (O : Own) (H : Hp) :
    Ok (C.blk scope Vs xs Gs O H) (X.blk s Hs scope (compEnvC scope cl Cc X.env) fp) := by
  unfold blkB at hB
  simp only [Bool.and_eq_true, List.all_eq_true, Bool.or_eq_true, Bool.not_eq_true', beq_iff_eq, decide_eq_true_eq] at hB
  obtain ⟨⟨⟨⟨h1, h2⟩, h3⟩, h4⟩, h5⟩ := hB
  have es : (compEnvC scope cl Cc X.env).scope = relS scope C.sc := by rw [← ok.sc]; rfl
  refine ⟨ok.prog, ok.w, ok.K, ok.mg, ok.base, ok.N, ok.nd, es, fun x hx => ?_, fun x hx => ?_, fun x hx => ?_, ok.calm, ok.room, ok.grd, fun σ EK h => ?_, PassesOwn.never, LamX.takes0.imp fun cls d σ H ⟨x, Γ, O, q, _⟩ => q, fun z => Bool.noConfusion z, fun c P q z => nomatch z⟩
  · obtain ⟨⟨a, b⟩, c⟩ := h3 x hx
    refine ⟨?_, b, c⟩
    show Vis (compEnvC scope cl Cc X.env).scope x
    rw [es]
    rcases a with (a | a) | a
    · exact .inl a
    · exact .inr (.inl a)
    · exact .inr (.inr a)
  · show Loc (compEnvC scope cl Cc X.env).scope x ∧ (_ ∨ (compEnvC scope cl Cc X.env).scope.names.lookup x = _)
    rw [es]
    rcases h4 x hx with a | ⟨a, b⟩
    · exact ⟨.inl a, .inr a⟩
    · exact ⟨.inr a, .inl (by simp [b])⟩
  · obtain ⟨a, b⟩ := h5 x hx
    refine ⟨?_, b⟩
    show (compEnvC scope cl Cc X.env).scope.names.lookup x = some .globalImplicit
    rw [es]; exact a
  · rintro pins H1 s1 e s2 I ⟨_, _, _, _, _, _, _, _, _, _, _, _, z⟩
    obtain ⟨_, _, _, q, _⟩ := h _ _ _ z
    exact q.elim
/-- the names xs forgotten -/
inductive Wp : En → List Str → En → Prop
  | nil {Γ : En} : Wp Γ [] Γ
  | cons {Γ Γ1 Γ2 : En} {x : Str} {xs : List Str} : Wp Γ xs Γ1 → Up Γ1 x none Γ2 → Wp Γ (x :: xs) Γ2
theorem Up.unset {K : PySem.W.Frag} {N : Addr → Prop} {H : Hp} : ∀ {Γ Γ' : En} {x : Str} {σ : St}, Up Γ x none Γ' → (Γ.map (·.1)).Nodup → RepSl K N H Γ σ → RepSl K N H Γ' (σ.set ((Γ.map (·.1)).idxOf x) none)
  | (y, o) :: Γ, _, _, σ, .here, nd, h => by
    have e : List.idxOf y (((y, o) :: Γ).map (·.1)) = 0 := by simp
    rw [e]
    cases o with
    | none =>
      simp only [RepSl] at h
      obtain ⟨o, q, rfl, h⟩ := h
      simp only [RepSl, List.set]; exact ⟨none, q, rfl, h⟩
    | some e =>
      simp only [RepSl] at h
      obtain ⟨o, q, rfl, _, h⟩ := h
      simp only [RepSl, List.set]; exact ⟨none, q, rfl, h⟩
  | (y, o) :: Γ, _, x, σ, .there u, nd, h => by
    have ne : y ≠ x := by
      rintro rfl
      simp only [List.map_cons, List.nodup_cons] at nd
      obtain ⟨i, hi⟩ := Up.mem u
      exact nd.1 (List.mem_of_getElem? hi)
    have e : List.idxOf x (((y, o) :: Γ).map (·.1)) = List.idxOf x (Γ.map (·.1)) + 1 := by
      simp [List.idxOf_cons, beq_eq_false_iff_ne.mpr ne]
    rw [e]
    simp only [List.map_cons, List.nodup_cons] at nd
    cases o with
    | none =>
      simp only [RepSl] at h
      obtain ⟨o, q, rfl, h⟩ := h
      have := Up.unset u nd.2 h
      simp only [RepSl, List.set]; exact ⟨o, _, rfl, this⟩
    | some e =>
      simp only [RepSl] at h
      obtain ⟨o, q, rfl, a, h⟩ := h
      have := Up.unset u nd.2 h
      simp only [RepSl, List.set]; exact ⟨o, _, rfl, a, this⟩
theorem Wp.ok {K : PySem.W.Frag} {P : Addr → Prop} {H : Hp} {N : List Str} : ∀ {xs : List Str} {Γ Γ' : En} {σ : St}, Wp Γ xs Γ' → Γ.map (·.1) = N → N.Nodup → RepSl K P H Γ σ → RepSl K P H Γ' (wipe σ ((ownIx N xs).map (·.2))) ∧ Γ'.map (·.1) = N
  | [], _, _, _, .nil, e, nd, h => ⟨h, e⟩
  | x :: xs, _, _, _, .cons w u, e, nd, h => by
    obtain ⟨h1, e1⟩ := Wp.ok w e nd h
    have := u.unset (by rw [e1]; exact nd) h1
    rw [e1] at this
    exact ⟨this, by rw [u.nm]; exact e1⟩
/-- σ' is σ but at the names xs -/
def But (N : List Str) (xs : List Str) (σ σ' : St) : Prop := σ'.length = σ.length ∧ ∀ i : Nat, σ'[i]? ≠ σ[i]? → ∃ x ∈ xs, N[i]? = some x
theorem But.refl {N xs : List Str} {σ : St} : But N xs σ σ := ⟨rfl, fun _ h => absurd rfl h⟩
theorem But.trans {N xs : List Str} {σ σ1 σ2 : St} (a : But N xs σ σ1) (b : But N xs σ1 σ2) : But N xs σ σ2 :=
  ⟨b.1.trans a.1, fun i h => by
    by_cases e : σ2[i]? = σ1[i]?
    · rw [e] at h; exact a.2 i h
    · exact b.2 i e⟩
theorem But.mono {N xs ys : List Str} {σ σ' : St} (h : ∀ x ∈ xs, x ∈ ys) (a : But N xs σ σ') : But N ys σ σ' := ⟨a.1, fun i q => let ⟨x, h1, h2⟩ := a.2 i q; ⟨x, h x h1, h2⟩⟩
theorem But.set {N : List Str} {σ : St} {i : Nat} {x : Str} {o : Option V} (h : N[i]? = some x) : But N [x] σ (σ.set i o) := ⟨by simp, fun j q => by
  by_cases e : i = j
  · subst e; exact ⟨x, List.mem_cons_self, h⟩
  · rw [List.getElem?_set_ne e] at q; exact absurd rfl q⟩
theorem wipe_get {σ : St} {i : Nat} : ∀ {vs : List Nat}, (wipe σ vs)[i]? = if i ∈ vs ∧ i < σ.length then some none else σ[i]?
  | [] => by simp [wipe]
  | v :: vs => by
    unfold wipe
    have ih := wipe_get (σ := σ) (i := i) (vs := vs)
    by_cases e : v = i
    · subst e
      by_cases h : v < σ.length
      · rw [List.getElem?_set_self (by rw [wipe_length]; exact h)]
        simp [h]
      · rw [List.getElem?_eq_none (by rw [List.length_set, wipe_length]; omega), List.getElem?_eq_none (by omega : σ.length ≤ v)]
        simp [h]
    · rw [List.getElem?_set_ne e, ih]
      simp [Ne.symm e]
theorem But.wipe {N xs : List Str} {σ σ' : St} (nd : N.Nodup) (b : But N xs σ σ') : L2.wipe σ' ((ownIx N xs).map (·.2)) = L2.wipe σ ((ownIx N xs).map (·.2)) := by
  apply List.ext_getElem?
  intro i
  rw [wipe_get, wipe_get, b.1]
  by_cases h : i ∈ (ownIx N xs).map (·.2) ∧ i < σ.length
  · rw [if_pos h, if_pos h]
  · rw [if_neg h, if_neg h]
    by_cases e : σ'[i]? = σ[i]?
    · exact e
    · exfalso
      obtain ⟨x, hx, hi⟩ := b.2 i e
      refine h ⟨?_, ?_⟩
      · simp only [ownIx, List.map_map, List.mem_map]
        refine ⟨x, hx, ?_⟩
        have hlt : i < N.length := (List.getElem?_eq_some_iff.mp hi).1
        have hxe : N[i] = x := (List.getElem?_eq_some_iff.mp hi).2
        show N.idxOf x = i
        rw [← hxe]
        exact List.Nodup.idxOf_getElem nd i hlt
      · by_cases z : i < σ.length
        · exact z
        · have l1 := b.1
          rw [List.getElem?_eq_none (by omega : σ'.length ≤ i), List.getElem?_eq_none (by omega : σ.length ≤ i)] at e
          exact absurd rfl e
/-- a target that changes the names xs alone -/
structure WGx (C : CD) (X : Cx) (xs : List Str) (tg : Expr) (d : D) (Γ : En) (O : Own) (R : En → Own → Prop) : Prop where
  run :
    Ok C X → ∀ σ H, Sat C Γ O σ H → ∀ v, Rep C.M.K O.has H d v → ∀ k : St → Hp → Prop, (∀ σ' H' Γ' O', R Γ' O' → Sat C Γ' O' σ' H' → Le O H O' H' → But C.N xs σ σ' → k σ' H') → GW X tg v σ H k
instance {C : CD} {X : Cx} {xs : List Str} {tg : Expr} {d : D} {Γ : En} {O : Own} {R : En → Own → Prop} : CoeFun (WGx C X xs tg d Γ O R) (fun _ =>
  Ok C X → ∀ σ H, Sat C Γ O σ H → ∀ v, Rep C.M.K O.has H d v → ∀ k : St → Hp → Prop, (∀ σ' H' Γ' O', R Γ' O' → Sat C Γ' O' σ' H' → Le O H O' H' → But C.N xs σ σ' → k σ' H') → GW X tg v σ H k) := ⟨WGx.run⟩
structure WGsx (C : CD) (X : Cx) (xs : List Str) (tgs : List Expr) (ds : List D) (Γ : En) (O : Own) (R : En → Own → Prop) : Prop where
  run :
    Ok C X → ∀ σ H, Sat C Γ O σ H → ∀ vs, Reps C.M.K O.has H ds vs → ∀ k : St → Hp → Prop, (∀ σ' H' Γ' O', R Γ' O' → Sat C Γ' O' σ' H' → Le O H O' H' → But C.N xs σ σ' → k σ' H') → GsW X tgs vs σ H k
instance {C : CD} {X : Cx} {xs : List Str} {tgs : List Expr} {ds : List D} {Γ : En} {O : Own} {R : En → Own → Prop} : CoeFun (WGsx C X xs tgs ds Γ O R) (fun _ =>
  Ok C X → ∀ σ H, Sat C Γ O σ H → ∀ vs, Reps C.M.K O.has H ds vs → ∀ k : St → Hp → Prop, (∀ σ' H' Γ' O', R Γ' O' → Sat C Γ' O' σ' H' → Le O H O' H' → But C.N xs σ σ' → k σ' H') → GsW X tgs vs σ H k) := ⟨WGsx.run⟩
section
variable {C : CD} {X : Cx} {Γ Γ' : En} {O : Own} {Q : D → Own → Prop} {QT : Bool → Own → Prop} {R : En → Own → Prop} {N : De} {pos : Pos} {a b c e tg iter elt : Expr} {es ifs : List Expr} {xs : List Str} {σ : St} {H : Hp}
theorem wgx_name {x : Str} {d : D} (hm : x ∈ xs) (hx : x ∈ C.Ls) (u : Up Γ x (some d) Γ') (q : R Γ' O) : WGx C X xs (.Name x pos) d Γ O R := .mk fun ok σ H S v r k hk => by
  obtain ⟨i, h1, h2⟩ := u.set S.sl r
  rw [S.nm] at h1
  have l := ok.loc x hx
  exact gw_of (pg_name (i := i) (by rw [ok.N]; exact ok.nd) (by rw [ok.N]; exact h1) l.1 l.2) (hk _ H Γ' O q ⟨by rw [u.nm]; exact S.nm, h2, S.own, S.le⟩ (Le.refl _ _) ((But.set h1).mono fun y hy => by
    rw [List.mem_singleton] at hy; rw [hy]; exact hm))
theorem wgsx_nil (q : R Γ O) : WGsx C X xs [] [] Γ O R := .mk fun ok σ H S vs r k hk => by
  rw [reps_nil] at r
  exact gsw_of pgs_nil ⟨r, hk σ H Γ O q S (Le.refl _ _) But.refl⟩
theorem wgsx_cons {d : D} {ds : List D} (hs : ∀ env, (assignEach (e :: es) env).map (·.2) = assign e env :: (assignEach es env).map (·.2)) (h : WGx C X xs e d Γ O fun Γ1 O1 => WGsx C X xs es ds Γ1 O1 R) : WGsx C X xs (e :: es) (d :: ds) Γ O R := .mk fun ok σ H S vs r k hk => by
  rw [reps_cons] at r
  obtain ⟨x, ys, rfl, r1, r2⟩ := r
  refine gsw_of (pgs_cons pg_gw pgs_gsw (hs _)) ⟨x, ys, rfl, ?_⟩
  refine h ok σ H S x r1 _ fun σ1 H1 Γ1 O1 q1 S1 l1 b1 => ?_
  exact q1 ok σ1 H1 S1 ys (Reps.le l1 r2) k fun σ2 H2 Γ2 O2 q2 S2 l2 b2 => hk σ2 H2 Γ2 O2 q2 S2 (l1.trans l2) (b1.trans b2)
theorem wgx_tup {n : Nat} {ds : List D} (hl : ds.length = es.length) (hn : ∀ env, (assignEach es env).length = es.length) (hst : ∀ env, (assignEach es env).findIdx? (·.1) = none) (h : WGsx C X xs es ds Γ O R) : WGx C X xs (.Tuple es n pos) (.tup ds) Γ O R := .mk fun ok σ H S v r k hk => by
  obtain ⟨p, ys, rfl, sq, rx⟩ := sq_of_tup r
  exact gw_of (pg_tup ok.calm pgs_gsw (hn _) (hst _)) ⟨p, ys, rfl, .inl (.inl sq), by rw [reps_len rx, hl], h ok σ H S ys rx k hk⟩
/-- a clause's tests -/
def WTs (C : CD) (X : Cx) : List Expr → En → Own → (Bool → Own → Prop) → Prop
  | [], _, O, QT => QT true O
  | [c], Γ, O, QT => WT C X c Γ O QT
  | _, _, _, _ => False
/-- one turn of a comprehension -/
def LcTurn (C : CD) (xs : List Str) (tg elt : Expr) (ifs : List Expr) (d : D) (Γ : En) (O : Own) (R : Option D → Own → Prop) : Prop :=
  ∀ X, WGx C X xs tg d Γ O fun Γ2 O2 => ∀ X, WTs C X ifs Γ2 O2 fun t O3 => (t = true → ∀ X, WE C X elt Γ2 O3 fun e O4 => R (some e) O4) ∧ (t = false → R none O3)
def accO (acc : List D) : Option D → List D
  | some e => acc ++ [e]
  | none => acc
/-- what a comprehension asks -/
def LcAsk (C : CD) (scope : Scope) (xs Vs Gs : List Str) (tg elt : Expr) (ifs : List Expr) (Γ : En) (Q : D → Own → Prop) (ds : List D) (Src : Own → Prop) (O1 : Own) : Prop :=
  ds.length ≤ sizeLine ∧ ∃ (Γw : En) (I : Nat → List D → Own → Prop), Wp Γ xs Γw ∧ I 0 [] O1 ∧
    (∀ i acc O' p, I i acc O' → Src ((p, .lst acc) :: O')) ∧
    (∀ H1 i d acc O' p, ds[i]? = some d → I i acc O' → ¬ O'.has p → LcTurn (C.blk scope Vs xs Gs O1 H1) xs tg elt ifs d Γw ((p, .lst acc) :: O') fun oe O4 => ∃ O5, O4 = (p, .lst acc) :: O5 ∧ I (i + 1) (accO acc oe) O5) ∧
    (∀ acc O' p, I ds.length acc O' → ¬ O'.has p → Q (.ref p) ((p, .lst acc) :: O'))
theorem lc_read {scope : Scope} {Vs Gs : List Str} (hB : blkB C.N C.sc scope xs Vs Gs = true) (ok : Ok C X) (S : Sat C Γ O σ H) {k : VK} (hk : KV_ C Γ O σ H Q k)
    (h : WI C X tg iter Γ O fun ds Src O1 => LcAsk C scope xs Vs Gs tg elt ifs Γ Q ds Src O1) :
    tLc (IW X tg iter) (fun v σ H R => ∀ s Hs Cc cl fp, GW (X.blk s Hs scope (compEnvC scope cl Cc X.env) fp) tg v σ H R)
      (fun σ H R => ∀ s Hs Cc cl fp, match ifs with | [] => R true H | [c] => TW (X.blk s Hs scope (compEnvC scope cl Cc X.env) fp) c σ H R | _ => False)
      (fun σ H R => ∀ s Hs Cc cl fp, EW (X.blk s Hs scope (compEnvC scope cl Cc X.env) fp) elt σ H R) ((ownIx C.N xs).map (·.2)) σ H k := by
  refine h ok σ H S _ fun J H1 ds Src O1 q1 S1 l1 gj => ?_
  obtain ⟨hz, Γw, I, hw, h0, hsrc, hst, hend⟩ := q1
  intro p hp
  have np := S1.own.nothas hp
  obtain ⟨w0, l0⟩ := own_new (K := C.M.K) (od := .lst []) (o := .lst []) S1.own hp ⟨[], upd_same, reps_nil.mpr rfl⟩
  refine ⟨fun i m H' => m = ds.length - i ∧ i ≤ ds.length ∧ ∃ acc O', I i acc O' ∧ acc.length ≤ i ∧ OwnOk C.M.K ((p, .lst acc) :: O') H' ∧ Le O1 H1 ((p, .lst acc) :: O') H', ⟨ds.length, by simp, Nat.zero_le _, [], O1, h0, Nat.le_refl _, w0, l0⟩, ?_⟩
  rintro i m H' ⟨rfl, hi, acc, O', hI, hacc, w', l'⟩
  have np' : ¬ O'.has p := by
    have := w'.nd
    simp only [List.map_cons, List.nodup_cons] at this
    exact this.1
  by_cases hlt : i < ds.length
  · refine .inr ⟨gj.go _ H' i w' l' (hsrc i acc O' p hI) hlt, fun H2 => ∃ acc O2, I (i + 1) acc O2 ∧ acc.length ≤ i + 1 ∧ OwnOk C.M.K ((p, .lst acc) :: O2) H2 ∧ Le O1 H1 ((p, .lst acc) :: O2) H2,
      fun H2 ⟨acc, O2, a, b, c, d⟩ => ⟨ds.length - (i + 1), by omega, rfl, hlt, acc, O2, a, b, c, d⟩, fun x H3 y => ?_⟩
    obtain ⟨d, hd, rd, w3, l3⟩ := gj.yld _ H' i x H3 w' l' (hsrc i acc O' p hI) hlt y
    have l13 := l'.trans l3
    obtain ⟨sw, en⟩ := hw.ok S1.nm ok.nd (RepSl.le l13 S1.sl)
    have Sb : Sat (C.blk scope Vs xs Gs O1 H1) Γw ((p, .lst acc) :: O') (wipe σ ((ownIx C.N xs).map (·.2))) H3 := ⟨en, sw, w3, l13⟩
    intro s Hs Cc cl fp
    have okb := ok_blk ok hB s Hs Cc cl fp O1 H1
    refine hst H1 i d acc O' p hd hI np' _ okb _ H3 Sb x rd _ fun σ4 H4 Γ4 O4 q4 S4 l4 b4 => ⟨?_, fun s Hs Cc cl fp => ?_⟩
    · have := b4.wipe ok.nd
      rw [this]
      apply List.ext_getElem?
      intro j
      rw [wipe_get, wipe_get, wipe_length]
      split <;> rfl
    · -- the tests
      have okb := ok_blk ok hB s Hs Cc cl fp O1 H1
      have fin : ∀ (t : Bool) (O5 : Own) (H5 : Hp), ((t = true → ∀ X, WE (C.blk scope Vs xs Gs O1 H1) X elt Γ4 O5 fun e O6 => ∃ O7, O6 = (p, .lst acc) :: O7 ∧ I (i + 1) (accO acc (some e)) O7) ∧ (t = false → ∃ O7, O5 = (p, .lst acc) :: O7 ∧ I (i + 1) (accO acc none) O7)) →
          Sat (C.blk scope Vs xs Gs O1 H1) Γ4 O5 σ4 H5 → if t = true then (∀ s Hs Cc cl fp, EW (X.blk s Hs scope (compEnvC scope cl Cc X.env) fp) elt σ4 H5 fun y H6 => ∃ ac, H6 p = some (.lst ac) ∧ ac.length < sizeLine ∧ ∃ acc O2, I (i + 1) acc O2 ∧ acc.length ≤ i + 1 ∧ OwnOk C.M.K ((p, .lst acc) :: O2) (upd H6 p (.lst (ac ++ [y]))) ∧ Le O1 H1 ((p, .lst acc) :: O2) (upd H6 p (.lst (ac ++ [y]))))
            else ∃ acc O2, I (i + 1) acc O2 ∧ acc.length ≤ i + 1 ∧ OwnOk C.M.K ((p, .lst acc) :: O2) H5 ∧ Le O1 H1 ((p, .lst acc) :: O2) H5 := by
        intro t O5 H5 q S5
        cases t with
        | false =>
          obtain ⟨O7, rfl, q7⟩ := q.2 rfl
          exact ⟨acc, O7, q7, by omega, S5.own, S5.le⟩
        | true =>
          intro s Hs Cc cl fp
          refine q.1 rfl _ (ok_blk ok hB s Hs Cc cl fp O1 H1) σ4 H5 S5 _ fun y H6 e O6 q6 S6 l6 r6 => ?_
          obtain ⟨O7, rfl, q7⟩ := q6
          obtain ⟨ac, e6, rac⟩ := S6.own.at_ p (.lst acc) List.mem_cons_self
          have lac := reps_len rac
          have u : OUp ((p, .lst acc) :: O7) p (.lst acc) (.lst (acc ++ [e])) ((p, .lst (acc ++ [e])) :: O7) := .here
          have lu := u.le (H := H6) (o := .lst (ac ++ [y]))
          refine ⟨ac, e6, by omega, acc ++ [e], O7, q7, by simp; omega, u.own S6.own ⟨ac ++ [y], upd_same, Reps.le lu (reps_app rac (reps_cons.mpr ⟨y, [], rfl, r6, reps_nil.mpr rfl⟩))⟩, S6.le.trans lu⟩
      have q4 := q4 (X.blk s Hs scope (compEnvC scope cl Cc X.env) fp)
      match ifs, q4 with
      | [], q4 => exact fin true O4 H4 q4 S4
      | [c], q4 => exact WT.run q4 okb σ4 H4 S4 _ fun t H5 O5 q5 S5 l5 => fin t O5 H5 q5 S5
      | _ :: _ :: _, q4 => exact q4.elim
  · have e : i = ds.length := by omega
    subst e
    refine .inl ⟨gj.stop _ H' _ w' l' (hsrc _ acc O' p hI) (Nat.le_refl _), ?_⟩
    exact hk _ H' _ _ (hend acc O' p hI np') (S1.step l' w') (l1.trans l') (rep_ref.mpr rfl)
theorem pts_of {ifs : List Expr} : PTs X ifs (fun σ H R => match ifs with | [] => R true H | [c] => TW X c σ H R | _ => False) := by
  match ifs with
  | [] => exact ⟨fun pins s σ H Q I h => pts_nil.run pins s σ H Q I h⟩
  | [c] => exact ⟨fun pins s σ H Q I h => (pts_one pt_tw).run pins s σ H Q I h⟩
  | _ :: _ :: _ => exact ⟨fun pins s σ H Q I h => h.elim⟩
theorem blkB_ok {scope : Scope} {Vs Gs : List Str} (hB : blkB C.N C.sc scope xs Vs Gs = true) : BlkOk C.N C.sc scope (ownIx C.N xs) := by
  unfold blkB at hB
  simp only [Bool.and_eq_true] at hB
  exact blkOk_by hB.1.1.1.1
/-- [elt for tg in iter if ..], owned -/
theorem we_lc {scope : Scope} (Vs Gs xs : List Str) (hB : blkB C.N C.sc scope xs Vs Gs = true) (hs : ∀ env x, foldedSetIterable iter env x = pure x)
    (h : WI C X tg iter Γ O fun ds Src O1 => LcAsk C scope xs Vs Gs tg elt ifs Γ Q ds Src O1) : WE C X (.ListComp elt [⟨tg, iter, ifs, 0⟩] scope pos) Γ O Q := .mk fun ok σ H S k hk =>
  ew_of (pe_lc ok.calm (by rw [ok.N]; exact ok.nd) pi_iw (by rw [ok.N, ok.sc]; exact blkB_ok hB) (fun s Hs Cc cl fp => ⟨fun pins s' σ' H' v u Q I r hh => hh s Hs Cc cl fp pins s' u I r⟩)
    (fun s Hs Cc cl fp => ⟨fun pins s' σ' H' Q I hh => (pts_of (ifs := ifs)).run pins s' σ' H' Q I (by
      have := hh s Hs Cc cl fp
      match ifs, this with
      | [], this => exact this
      | [c], this => exact this
      | _ :: _ :: _, this => exact this.elim)⟩) (fun s Hs Cc cl fp => ⟨fun pins s' σ' H' Q I hh => hh s Hs Cc cl fp pins s' I⟩) (hs _)) (lc_read hB ok S hk h)
theorem getElem?_idxOf' : ∀ {l : List Str} {x : Str}, x ∈ l → l[l.idxOf x]? = some x
  | y :: l, x, h => by
    rw [List.idxOf_cons]
    by_cases e : y = x
    · subst e; simp
    · have h' : x ∈ l := by
        rcases List.mem_cons.mp h with z | z
        · exact absurd z.symm e
        · exact z
      simp only [beq_eq_false_iff_ne.mpr e, cond_false, List.getElem?_cons_succ]
      exact getElem?_idxOf' h'
/-- y = [elt for tg in iter if ..] on one line -/
theorem ws_setLc {scope : Scope} {y : Str} {py spos : Pos} (Vs Gs xs : List Str) (hB : blkB C.N C.sc scope xs Vs Gs = true) (hs : ∀ env x, foldedSetIterable iter env x = pure x)
    (hy : C.sc.names.lookup y = some .local) (hyN : y ∈ C.N) (hsw : ∀ env : Env, env.scope = C.sc → swapsWith (.ListComp elt [⟨tg, iter, ifs, 0⟩] scope pos) (some (.Name y py)) spos.line env = pure true)
    (h : WI C X tg iter Γ O fun ds Src O1 => LcAsk C scope xs Vs Gs tg elt ifs Γ (fun d O2 => ∃ Γ' d' O3, (d' = d ∧ O3 = O2 ∨ ∃ p l, d = .ref p ∧ OTk O2 p (.lst l) O3 ∧ d' = .lst l) ∧ Up Γ y (some d') Γ' ∧ N.nx Γ' O3) ds Src O1) : WS C X (.Assign [.Name y py] (.ListComp elt [⟨tg, iter, ifs, 0⟩] scope pos) spos) Γ O N := .mk fun ok σ H S Dn hD => by
  have hi : X.N[C.N.idxOf y]? = some y := by
    rw [ok.N]
    exact getElem?_idxOf' hyN
  refine sw_of (ps_setLc (i := C.N.idxOf y) (own := ownIx C.N xs) ok.calm (by rw [ok.N]; exact ok.nd) hi (by rw [ok.sc]; exact hy) (hsw _ ok.sc) pi_iw (by rw [ok.N, ok.sc]; exact blkB_ok hB) (fun s Hs Cc cl fp => ⟨fun pins s' σ' H' v u Q I r hh => hh s Hs Cc cl fp pins s' u I r⟩)
    (fun s Hs Cc cl fp => ⟨fun pins s' σ' H' Q I hh => (pts_of (ifs := ifs)).run pins s' σ' H' Q I (by
      have := hh s Hs Cc cl fp
      match ifs, this with
      | [], this => exact this
      | [c], this => exact this
      | _ :: _ :: _, this => exact this.elim)⟩) (fun s Hs Cc cl fp => ⟨fun pins s' σ' H' Q I hh => hh s Hs Cc cl fp pins s' I⟩) (hs _)) (lc_read hB ok S ?_ h)
  rintro v H' d O2 ⟨Γ', d', O3, hd, u, q⟩ S2 l2 r2
  have fin : ∀ {d' : D} {O3 : Own}, Up Γ y (some d') Γ' → N.nx Γ' O3 → Sat C Γ O3 σ H' → Rep C.M.K O3.has H' d' v → Dn.nx (σ.set (C.N.idxOf y) (some v)) H' := fun {d' O3} u q S3 r3 => by
    obtain ⟨i, h1, h2⟩ := u.set S3.sl r3
    rw [S3.nm] at h1
    have e : i = C.N.idxOf y := by
      have hlt : i < C.N.length := (List.getElem?_eq_some_iff.mp h1).1
      have hxe : C.N[i] = y := (List.getElem?_eq_some_iff.mp h1).2
      rw [← hxe]
      exact (List.Nodup.idxOf_getElem ok.nd i hlt).symm
    subst e
    exact hD.nx _ H' Γ' O3 q ⟨by rw [u.nm]; exact S3.nm, h2, S3.own, S3.le⟩
  rcases hd with ⟨rfl, rfl⟩ | ⟨p, l, rfl, t, rfl⟩
  · exact fin u q S2 r2
  · rw [rep_ref] at r2
    subst r2
    exact fin u q (S2.step t.le (t.own S2.own)) (t.lst S2.own)
end
end DL
namespace DL
open PySem PySem.Spec PyProof.Rows L2

/-! ### data as the library's data -/
mutual
def D.py : D → PyData
  | .bl b => .bool b
  | .int i => .int i
  | .str x => .str x
  | .lst ds => .list (D.pys ds)
  | .klst ds => .list (D.pys ds)
  | .tup ds => .tuple (D.pys ds)
  | .ktup ds => .tuple (D.pys ds)
  | _ => .none
def D.pys : List D → List PyData
  | [] => []
  | d :: ds => d.py :: D.pys ds
end
mutual
def D.isPy : D → Bool
  | .non => true
  | .bl _ => true
  | .int _ => true
  | .str _ => true
  | .lst ds => D.arePy ds
  | .klst ds => D.arePy ds
  | .tup ds => D.arePy ds
  | .ktup ds => D.arePy ds
  | _ => false
def D.arePy : List D → Bool
  | [] => true
  | d :: ds => d.isPy && D.arePy ds
end
section
variable {K : PySem.W.Frag} {N : Addr → Prop} {H : Hp}
mutual
theorem Rep.dp : ∀ {d : D} {v : V}, d.isPy = true → Rep K N H d v → Dp K H v d.py
  | .non, _, _, h => by rw [rep_non] at h; subst h; exact .non
  | .bl b, _, _, h => by rw [rep_bl] at h; subst h; exact .bl b
  | .int b, _, _, h => by rw [rep_int] at h; subst h; exact .int b
  | .str b, _, _, h => by rw [rep_str] at h; subst h; exact .str b
  | .lst ds, v, i, h => by
    simp only [Rep] at h
    obtain ⟨a, xs, rfl, _, e, r⟩ := h
    exact .lst (.inl (.inl e)) (Reps.dp (by simpa [D.isPy] using i) r)
  | .tup ds, v, i, h => by
    simp only [Rep] at h
    obtain ⟨a, xs, rfl, _, e, r⟩ := h
    exact .tup (.inl (.inl e)) (Reps.dp (by simpa [D.isPy] using i) r)
  | .klst ds, v, i, h => by
    simp only [Rep] at h
    obtain ⟨a, xs, rfl, e, r⟩ := h
    exact .lst (by rcases e with e | e; exact .inl e.2; exact .inr e) (Reps.dp (by simpa [D.isPy] using i) r)
  | .ktup ds, v, i, h => by
    simp only [Rep] at h
    obtain ⟨a, xs, rfl, e, r⟩ := h
    exact .tup (by rcases e with e | e; exact .inl e.2; exact .inr e) (Reps.dp (by simpa [D.isPy] using i) r)
  | .ref _, _, i, _ => by simp [D.isPy] at i
  | .ty _, _, i, _ => by simp [D.isPy] at i
  | .dct _, _, i, _ => by simp [D.isPy] at i
  | .ins _ _, _, i, _ => by simp [D.isPy] at i
  | .exc _ _, _, i, _ => by simp [D.isPy] at i
theorem Reps.dp : ∀ {ds : List D} {vs : List V}, D.arePy ds = true → Reps K N H ds vs → DpAll K H vs (D.pys ds)
  | [], _, _, h => by rw [reps_nil] at h; subst h; exact .nil
  | d :: ds, _, i, h => by
    rw [reps_cons] at h
    obtain ⟨x, r, rfl, a, b⟩ := h
    simp only [D.arePy, Bool.and_eq_true] at i
    exact .cons (Rep.dp i.1 a) (Reps.dp i.2 b)
end
end
mutual
theorem eqv_refl : ∀ d : PyData, d.hasDict = false → PyData.eqv d d = true
  | .none, _ => rfl
  | .bool b, _ => by simp [PyData.eqv]
  | .int b, _ => by simp [PyData.eqv]
  | .str b, _ => by simp [PyData.eqv]
  | .list xs, h => by simp only [PyData.eqv]; exact eqvAll_refl xs (by simpa [PyData.hasDict] using h)
  | .tuple xs, h => by simp only [PyData.eqv]; exact eqvAll_refl xs (by simpa [PyData.hasDict] using h)
  | .dict _, h => by simp [PyData.hasDict] at h
theorem eqvAll_refl : ∀ ds : List PyData, PyData.hasDictAll ds = false → PyData.eqvAll ds ds = true
  | [], _ => rfl
  | d :: ds, h => by
    simp only [PyData.hasDictAll, Bool.or_eq_false_iff] at h
    simp only [PyData.eqvAll, eqv_refl d h.1, eqvAll_refl ds h.2, Bool.and_self]
end
mutual
theorem py_noDict : ∀ d : D, d.py.hasDict = false
  | .non => rfl
  | .bl _ => rfl
  | .int _ => rfl
  | .str _ => rfl
  | .lst ds => by simp only [D.py, PyData.hasDict]; exact pys_noDict ds
  | .klst ds => by simp only [D.py, PyData.hasDict]; exact pys_noDict ds
  | .tup ds => by simp only [D.py, PyData.hasDict]; exact pys_noDict ds
  | .ktup ds => by simp only [D.py, PyData.hasDict]; exact pys_noDict ds
  | .ref _ => rfl
  | .ty _ => rfl
  | .dct _ => rfl
  | .ins _ _ => rfl
  | .exc _ _ => rfl
theorem pys_noDict : ∀ ds : List D, PyData.hasDictAll (D.pys ds) = false
  | [] => rfl
  | d :: ds => by simp only [D.pys, PyData.hasDictAll, py_noDict d, pys_noDict ds, Bool.or_self]
end
/-- == of data -/
def D.eq (x y : D) : Bool := PyData.eqv x.py y.py
theorem D.eq_refl (x : D) : D.eq x x = true := eqv_refl _ (py_noDict x)
theorem pys_ints (ns : List Int) : D.pys (ns.map .int) = ns.map .int := by
  induction ns with
  | nil => rfl
  | cons n ns ih => simp [D.pys, D.py, ih]
theorem arePy_ints (ns : List Int) : D.arePy (ns.map .int) = true := by
  induction ns with
  | nil => rfl
  | cons n ns ih => simp [D.arePy, D.isPy, ih]
theorem eqvAll_ints : ∀ ns ms : List Int, PyData.eqvAll (ns.map .int) (ms.map .int) = decide (ns = ms)
  | [], [] => rfl
  | [], _ :: _ => rfl
  | _ :: _, [] => rfl
  | n :: ns, m :: ms => by
    simp only [List.map_cons, PyData.eqvAll, PyData.eqv, eqvAll_ints ns ms]
    by_cases h : n = m <;> by_cases h' : ns = ms <;> simp [h, h']
theorem eq_ints (ns ms : List Int) : D.eq (.lst (ns.map .int)) (.lst (ms.map .int)) = decide (ns = ms) := by
  simp only [D.eq, D.py, pys_ints, PyData.eqv, eqvAll_ints]
theorem eq_intsT (ns ms : List Int) : D.eq (.tup (ns.map .int)) (.tup (ms.map .int)) = decide (ns = ms) := by
  simp only [D.eq, D.py, pys_ints, PyData.eqv, eqvAll_ints]
/-- the shape of data that == goes through -/
def D.shp (d : D) : Bool := d.isPy && SeqAt.shaped d.py
theorem depthAll_ints (ns : List Int) : PyData.depthAll (ns.map .int) ≤ 1 := by
  induction ns with
  | nil => simp [PyData.depthAll]
  | cons n ns ih => simp [PyData.depthAll, PyData.depth]; omega
theorem canLayAll_ints (ns : List Int) : PyData.canLayAll0 (ns.map .int) = true := by
  induction ns with
  | nil => rfl
  | cons n ns ih => simp [PyData.canLayAll0, PyData.canLay0, ih]
theorem shp_ints (ns : List Int) : D.shp (.lst (ns.map .int)) = true := by
  have h := depthAll_ints ns
  simp only [D.shp, D.isPy, arePy_ints, Bool.true_and, SeqAt.shaped, D.py, pys_ints, PyData.canLay0, canLayAll_ints, PyData.depth, decide_eq_true_eq]
  omega
theorem shp_intsT (ns : List Int) : D.shp (.tup (ns.map .int)) = true := by
  have h := depthAll_ints ns
  simp only [D.shp, D.isPy, arePy_ints, Bool.true_and, SeqAt.shaped, D.py, pys_ints, PyData.canLay0, canLayAll_ints, PyData.depth, decide_eq_true_eq]
  omega

section
variable {C : CD} {X : Cx} {Γ Γ' : En} {O : Own} {Q : D → Own → Prop} {QT : Bool → Own → Prop} {QA : List D → Own → Prop} {N : De} {pos : Pos} {a b c e : Expr} {es : List Expr} {σ : St} {H : Hp}
theorem ow_eqD {x y : D} (hx : x.shp = true) (hy : y.shp = true) (q : Q (.bl (D.eq x y)) O) : OW C X (compareOp .Eq) x y Γ O Q := .mk fun ok σ H S v w rx ry k hk pins s v' w' I rv rw' => by
  simp only [D.shp, Bool.and_eq_true] at hx hy
  refine op_eqD ok.room.units pins s σ H v w v' w' k I rv rw' ⟨x.py, y.py, by rw [ok.K]; exact rx.dp hx.1, by rw [ok.K]; exact ry.dp hy.1, hx.2, hy.2, hk.at q S (rep_bl.mpr rfl)⟩
theorem ow_neD {x y : D} (hx : x.shp = true) (hy : y.shp = true) (q : Q (.bl (!D.eq x y)) O) : OW C X (compareOp .NotEq) x y Γ O Q := .mk fun ok σ H S v w rx ry k hk pins s v' w' I rv rw' => by
  simp only [D.shp, Bool.and_eq_true] at hx hy
  refine op_neD ok.room.units pins s σ H v w v' w' k I rv rw' ⟨x.py, y.py, by rw [ok.K]; exact rx.dp hx.1, by rw [ok.K]; exact ry.dp hy.1, hx.2, hy.2, hk.at q S (rep_bl.mpr rfl)⟩
/-- xs + ys of lists -/
theorem ow_cat {x y : D} {ds es : List D} (hx : SqO O x ds) (hy : SqO O y es) (hz : ds.length + es.length ≤ sizeLine) (q : Q (.lst (ds ++ es)) O) : OW C X (binaryOp .Add) x y Γ O Q := ow_of op_cat fun σ H v w S rx ry k hk => by
  obtain ⟨p, xs, rfl, e, rx⟩ := hx.ok S.own rx
  obtain ⟨p', ys, rfl, e', ry⟩ := hy.ok S.own ry
  refine ⟨p, p', xs, ys, rfl, rfl, e, e', by rw [reps_len rx, reps_len ry]; exact hz, fun n hn => hk.new S hn q ?_⟩
  simp only [Rep]
  exact ⟨n, _, rfl, S.own.nothas hn, upd_same, Reps.le (Le.new_obj O hn) (reps_app rx ry)⟩
theorem ow_catO {x y : D} {ds es : List D} (hx : SqO O x ds) (hy : SqO O y es) (hz : ds.length + es.length ≤ sizeLine) (q : ∀ p, ¬ O.has p → Q (.ref p) ((p, .lst (ds ++ es)) :: O)) : OW C X (binaryOp .Add) x y Γ O Q := ow_of op_cat fun σ H v w S rx ry k hk => by
  obtain ⟨p, xs, rfl, e, rx⟩ := hx.ok S.own rx
  obtain ⟨p', ys, rfl, e', ry⟩ := hy.ok S.own ry
  refine ⟨p, p', xs, ys, rfl, rfl, e, e', by rw [reps_len rx, reps_len ry]; exact hz, fun n hn => hk.newO S hn (q n (S.own.nothas hn)) ⟨_, upd_same, ?_⟩⟩
  have l : Le O H ((n, .lst (ds ++ es)) :: O) (upd H n (.lst (xs ++ ys))) := ⟨fun a u e _ => by rw [upd_ne (ne_of_none e hn)]; exact e, fun a ha => by
    simp only [Own.has, List.map_cons, List.mem_cons] at ha
    rcases ha with z | z
    · exact .inr (by rw [z]; exact hn)
    · exact .inl z⟩
  exact Reps.le l (reps_app rx ry)
/-- xs * k of a list -/
theorem ow_repO {x : D} {k : Int} {ds : List D} (hx : SqO O x ds) (h1 : -(2 ^ 63) ≤ k) (h2 : k < 2 ^ 63) (hz : ds.length * k.toNat ≤ sizeLine) (q : ∀ p, ¬ O.has p → Q (.ref p) ((p, .lst (List.replicate k.toNat ds).flatten) :: O)) : OW C X (binaryOp .Mult) x (.int k) Γ O Q := ow_of op_rep fun σ H v w S rx ry kk hk => by
  obtain ⟨p, xs, rfl, e, rx⟩ := hx.ok S.own rx
  rw [rep_int] at ry
  refine ⟨p, k, xs, rfl, ry, e, h1, h2, by rw [reps_len rx]; exact hz, fun n hn => hk.newO S hn (q n (S.own.nothas hn)) ⟨_, upd_same, ?_⟩⟩
  have l : Le O H ((n, .lst (List.replicate k.toNat ds).flatten) :: O) (upd H n (.lst (List.replicate k.toNat xs).flatten)) := ⟨fun a u e _ => by rw [upd_ne (ne_of_none e hn)]; exact e, fun a ha => by
    simp only [Own.has, List.map_cons, List.mem_cons] at ha
    rcases ha with z | z
    · exact .inr (by rw [z]; exact hn)
    · exact .inl z⟩
  have rr : ∀ m : Nat, Reps C.M.K O.has H (List.replicate m ds).flatten (List.replicate m xs).flatten := fun m => by
    induction m with
    | zero => exact reps_nil.mpr rfl
    | succ m ih => simp only [List.replicate_succ, List.flatten_cons]; exact reps_app rx ih
  exact Reps.le l (rr _)

/-! ### built-in functions and types, called -/
/-- f, called with ds -/
structure BF (C : CD) (f : Value) (ds : List D) (Γ : En) (O : Own) (Q : D → Own → Prop) : Prop where
  run :
    ∀ X, Ok C X → ∀ σ H, Sat C Γ O σ H → ∀ vs, Reps C.M.K O.has H ds vs → ∀ k : VK, KV_ C Γ O σ H Q k →
      ∀ (pins : List (Addr × Obj)) (s : Shared) (us : List Value), Inv X pins σ H s → Vals vs us → wpAny (model X.prog X.w) X.A (call f us) (EP X pins σ k) X.xe s
instance {C : CD} {f : Value} {ds : List D} {Γ : En} {O : Own} {Q : D → Own → Prop} : CoeFun (BF C f ds Γ O Q) (fun _ =>
  ∀ X, Ok C X → ∀ σ H, Sat C Γ O σ H → ∀ vs, Reps C.M.K O.has H ds vs → ∀ k : VK, KV_ C Γ O σ H Q k →
    ∀ (pins : List (Addr × Obj)) (s : Shared) (us : List Value), Inv X pins σ H s → Vals vs us → wpAny (model X.prog X.w) X.A (call f us) (EP X pins σ k) X.xe s) := ⟨BF.run⟩
theorem we_bi {x : Str} {p : Pos} {f : Value} (hm : C.M.mg x = none) (hv : bootBuiltins x = some f) (hf : ∃ n, f = .builtin n ∨ f = .type n) (hn : x ≠ "__name__") (g : x ∈ C.Gs)
    (he : ∀ env, starEach (e :: es) env = (false, eval e env) :: starEach es env) (hpl : ∀ env, (backTo pos (starEach es env)).any (·.1) = false)
    (h : WA C X (e :: es) Γ O fun ds O1 => BF C f ds Γ O1 Q) : WE C X (.Call (.Name x p) (e :: es) [] pos) Γ O Q := .mk fun ok σ H S k hk pins s I => by
  have gx := ok.gl x g
  obtain ⟨n, hf⟩ := hf
  have run := h ok σ H S (fun vs H1 => ∀ (pins : List (Addr × Obj)) (s : Shared) (us : List Value), Inv X pins σ H1 s → Vals vs us → wpAny (model X.prog X.w) X.A (call f us) (EP X pins σ k) X.xe s) (fun vs H1 ds O1 q1 S1 l1 r1 => q1 X ok σ H1 S1 vs r1 k (hk.le l1)) pos pins s I
  refine wpAny_Call_Name_kw (ld_blt I gx.1 (by rw [ok.mg]; exact hm) hv ?_ hn gx.2)
  rcases hf with rfl | rfl
  · exact PyProof.Rows.callWith_builtin1 (thn run fun us s1 ⟨vs, H1, I1, r1, q1⟩ => q1 pins s1 us I1 r1) (he _) (hpl _)
  · exact PyProof.Rows.callWith_type1 (thn run fun us s1 ⟨vs, H1, I1, r1, q1⟩ => q1 pins s1 us I1 r1) (he _) (hpl _)
theorem bf_of {f : Value} {r : List V → Hp → VK → Prop} {ds : List D} (ho : ∀ X, Ok C X → CallR X f r) (h : ∀ σ H vs, Sat C Γ O σ H → Reps C.M.K O.has H ds vs → ∀ k, KV_ C Γ O σ H Q k → r vs H k) : BF C f ds Γ O Q :=
  .mk fun X ok σ H S vs rv k hk pins s us I r => ho X ok pins s σ H vs us k I r (h σ H vs S rv k hk)
theorem reps1 {K : PySem.W.Frag} {N : Addr → Prop} {d : D} {vs : List V} (h : Reps K N H [d] vs) : ∃ v, vs = [v] ∧ Rep K N H d v := by
  rw [reps_cons] at h
  obtain ⟨x, r, rfl, a, h⟩ := h
  rw [reps_nil] at h
  subst h
  exact ⟨x, rfl, a⟩
theorem reps2 {K : PySem.W.Frag} {N : Addr → Prop} {d d' : D} {vs : List V} (h : Reps K N H [d, d'] vs) : ∃ v v', vs = [v, v'] ∧ Rep K N H d v ∧ Rep K N H d' v' := by
  rw [reps_cons] at h
  obtain ⟨x, r, rfl, a, h⟩ := h
  obtain ⟨v, rfl, b⟩ := reps1 h
  exact ⟨x, v, rfl, a, b⟩
theorem bf_len {d : D} {ds : List D} (hd : Sq O d ds) (q : Q (.int ds.length) O) : BF C (.builtin "len") [d] Γ O Q := bf_of (fun X ok => by have := call_len_seq (X := X); rw [ok.K] at this; exact this) fun σ H vs S r0 k hk => by
  obtain ⟨v, rfl, r⟩ := reps1 r0
  obtain ⟨p, xs, rfl, h, rx⟩ := hd.ok S.own r
  exact ⟨p, xs, rfl, h, by rw [reps_len rx]; exact hk.at q S (rep_int.mpr rfl)⟩
theorem bf_len_str {x : Str} (hz : x.length ≤ sizeLine) (q : Q (.int x.length) O) : BF C (.builtin "len") [.str x] Γ O Q := bf_of (fun X ok => call_len_str) fun σ H vs S r0 k hk => by
  obtain ⟨v, rfl, r⟩ := reps1 r0
  rw [rep_str] at r
  subst r
  exact ⟨x, rfl, hz, hk.at q S (rep_int.mpr rfl)⟩
theorem bf_abs {i : Int} (q : Q (.int (if i < 0 then -i else i)) O) : BF C (.builtin "abs") [.int i] Γ O Q := bf_of (fun X ok => call_abs) fun σ H vs S r0 k hk => by
  obtain ⟨v, rfl, r⟩ := reps1 r0
  rw [rep_int] at r
  subst r
  exact ⟨i, rfl, hk.at q S (rep_int.mpr rfl)⟩
theorem bf_int {i : Int} (q : Q (.int i) O) : BF C (.type "int") [.int i] Γ O Q := bf_of (fun X ok => call_int1) fun σ H vs S r0 k hk => by
  obtain ⟨v, rfl, r⟩ := reps1 r0
  rw [rep_int] at r
  subst r
  exact .inl ⟨i, rfl, hk.at q S (rep_int.mpr rfl)⟩
theorem bf_intB {b : Bool} (q : Q (.int (if b then 1 else 0)) O) : BF C (.type "int") [.bl b] Γ O Q := bf_of (fun X ok => call_int1) fun σ H vs S r0 k hk => by
  obtain ⟨v, rfl, r⟩ := reps1 r0
  rw [rep_bl] at r
  subst r
  exact .inr ⟨b, rfl, hk.at q S (rep_int.mpr rfl)⟩
theorem bf_list {d : D} {ds : List D} (hd : Sq O d ds) (q : Q (.lst ds) O) : BF C (.type "list") [d] Γ O Q := bf_of (fun X ok => by have := call_list_of (X := X); rw [ok.K] at this; exact this) fun σ H vs S r0 k hk => by
  obtain ⟨v, rfl, r⟩ := reps1 r0
  obtain ⟨p, xs, rfl, h, rx⟩ := hd.ok S.own r
  refine ⟨p, xs, rfl, h, fun n hn => hk.new S hn q ?_⟩
  simp only [Rep]
  exact ⟨n, _, rfl, S.own.nothas hn, upd_same, Reps.le (Le.new_obj O hn) rx⟩
theorem bf_tuple {d : D} {ds : List D} (hd : SqLs O d ds) (q : Q (.tup ds) O) : BF C (.type "tuple") [d] Γ O Q := bf_of (fun X ok => by have := call_tuple_of (X := X); rw [ok.K] at this; exact this) fun σ H vs S r0 k hk => by
  obtain ⟨v, rfl, r⟩ := reps1 r0
  obtain ⟨p, xs, rfl, h, rx⟩ := hd.ok S.own r
  refine ⟨p, xs, rfl, .inl ⟨h, fun n hn => hk.new S hn q ?_⟩⟩
  simp only [Rep]
  exact ⟨n, _, rfl, S.own.nothas hn, upd_same, Reps.le (Le.new_obj O hn) rx⟩
theorem preSum_ints : ∀ (ns : List Int), preSum (fun i => ns.getD i 0) ns.length = ns.sum := by
  have gen : ∀ (ns : List Int) (k : Nat), k ≤ ns.length → preSum (fun i => ns.getD i 0) k = (ns.take k).sum := by
    intro ns k
    induction k with
    | zero => intro _; simp [preSum]
    | succ k ih =>
      intro h
      have hk : k < ns.length := h
      have e : ns.getD k 0 = ns[k] := by simp [List.getD, hk]
      rw [preSum, ih (by omega), e, List.take_succ_eq_append_getElem hk, List.sum_append]
      simp
  intro ns
  rw [gen ns _ (Nat.le_refl _), List.take_length]
theorem bf_sum {d : D} {ns : List Int} (hd : SqLs O d (ns.map .int)) (q : Q (.int ns.sum) O) : BF C (.builtin "sum") [d] Γ O Q := bf_of (fun X ok => by have := cr_sum ok.calm; rw [ok.K] at this; exact this) fun σ H vs S r0 k hk => by
  obtain ⟨v, rfl, r⟩ := reps1 r0
  obtain ⟨p, xs, rfl, h, rx⟩ := hd.ok S.own r
  rw [reps_ints] at rx
  subst rx
  exact ⟨p, ns, rfl, h, hk.at q S (rep_int.mpr rfl)⟩
theorem bf_sumT {d : D} {ns : List Int} (hd : SqTs O d (ns.map .int)) (q : Q (.int ns.sum) O) : BF C (.builtin "sum") [d] Γ O Q := .mk fun X ok σ H S vs rv0 k hk pins s us I r => by
  obtain ⟨v, rfl, rv⟩ := reps1 rv0
  obtain ⟨p, xs, rfl, h, rx⟩ := hd.ok rv
  rw [reps_ints] at rx
  subst rx
  obtain ⟨its, ri, ht, _⟩ := I.tuple (X := X) (by rw [ok.K]; exact h)
  rw [Vals.ref1 r]
  have hi : ∀ (i : Nat) (u : Value), its.toArray[i]? = some u → ∃ t, u = .int (ns.getD i 0) t := fun i u e => by
    have e' : its[i]? = some u := by simpa using e
    have hlt : i < its.length := (List.getElem?_eq_some_iff.mp e').1
    have hl := ri.length
    rw [List.length_map] at hl
    obtain ⟨w, hw, rw'⟩ := Vals.get (i := i) (x := V.int (ns.getD i 0)) ri (by simp [List.getD, List.getElem?_map, (by omega : i < ns.length)])
    rw [e'] at hw; cases hw
    exact rw'
  refine call_sum_walkG (wpAny_pyIter_tuple ht ?_)
  have hsz : (s.heap.push { cls := .type "tuple_iterator", data := .fields #[.ref p, .int 0 0] }).objs.size = s.heap.objs.size + 1 := Heap.size_push ..
  have hp := ht.lt
  refine ⟨_, _, _, _, _, _, fun i => ns.getD i 0, rfl, Walks.tuple (A := X.A.in1) (I.ok.hd ok.calm) s.heap.objs.size p (Nat.ne_of_lt hp) its.toArray, ⟨⟨_, Heap.get?_push_size _ rfl, rfl, rfl⟩, ht.push _⟩, fun d hd => ?_, fun i v e => hi i v e, fun h' tk t' hk' => ?_⟩
  · show d < ((s.heap.push _)).objs.size
    rw [hsz]
    rcases List.mem_cons.mp hd with rfl | hd
    · exact Nat.lt_succ_self _
    · rcases List.mem_cons.mp hd with rfl | hd
      · exact Nat.lt_succ_of_lt hp
      · cases hd
  · have e : preSum (fun i => ns.getD i 0) its.toArray.size = ns.sum := by
      have hl := ri.length
      rw [List.length_map] at hl
      rw [List.size_toArray, ← hl]
      exact preSum_ints ns
    rw [e]
    refine ⟨.int _, H, I.kept fun b o eo => hk' b o (fun hm => ?_) (Heap.get?_push_of_some _ eo), ⟨_, rfl⟩, hk.at q S (rep_int.mpr rfl)⟩
    rcases List.mem_cons.mp hm with e1 | hm
    · exact absurd (e1 ▸ Heap.lt_size eo) (Nat.lt_irrefl _)
    · cases hm

/-! ### isinstance -/
/-- the class of data -/
inductive TyD (K : PySem.W.Frag) (O : Own) : D → Value → Prop
  | non : TyD K O .non (.type "NoneType")
  | bl {b : Bool} : TyD K O (.bl b) (.type "bool")
  | int {i : Int} : TyD K O (.int i) (.type "int")
  | str {x : Str} : TyD K O (.str x) (.type "str")
  | lst {ds : List D} : TyD K O (.lst ds) (.type "list")
  | tup {ds : List D} : TyD K O (.tup ds) (.type "tuple")
  | dct {ds : List (Key × D)} : TyD K O (.dct ds) (.type "dict")
  | own {p : Addr} {ds : List D} : OAt O p (.lst ds) → TyD K O (.ref p) (.type "list")
  | ownD {p : Addr} {ds : List (Key × D)} : OAt O p (.dct ds) → TyD K O (.ref p) (.type "dict")
  | ins {d : D} {Cl : Addr} {fs : List (Str × D)} : Ins O d Cl fs → Cls K Cl → PySem.W.findIn K (.ref Cl) "__class__" = some (some (.builtin "object.__class__")) → PySem.W.specialIn K (.builtin "object.__class__") "__get__" = some (some (.builtin "getset_descriptor.__get__")) →
      PySem.W.takesIn K (.builtin "object.__class__") = some true → PySem.W.mroIn K Cl (.type "object") = some true → TyD K O d (.ref Cl)
theorem TyD.ok {K : PySem.W.Frag} {d : D} {t : Value} {v : V} (h : TyD K O d t) (w : OwnOk K O H) (r : Rep K O.has H d v) : TyX K H v t := by
  cases h with
  | non => rw [rep_non] at r; subst r; exact .base .non
  | bl => rw [rep_bl] at r; subst r; exact .base (.bl _)
  | int => rw [rep_int] at r; subst r; exact .base (.int _)
  | str => rw [rep_str] at r; subst r; exact .base (.str _)
  | lst => obtain ⟨p, xs, rfl, e, _⟩ := sq_of_lst r; exact .base (.lst e)
  | tup => obtain ⟨p, xs, rfl, e, _⟩ := sq_of_tup r; exact .base (.tup e)
  | dct =>
    simp only [Rep] at r
    obtain ⟨p, xs, rfl, _, e, _⟩ := r
    exact .base (.dK e)
  | own h =>
    rw [rep_ref] at r
    subst r
    obtain ⟨xs, e, _⟩ := w.at_ _ _ h.mem
    exact .base (.lst e)
  | ownD h =>
    rw [rep_ref] at r
    subst r
    obtain ⟨xs, e, _⟩ := w.at_ _ _ h.mem
    exact .base (.dK e)
  | ins i c h1 h2 h3 h4 =>
    obtain ⟨p, dx, gs, rfl, e, _⟩ := i.ok w r
    exact .base (.ins e c h1 h2 h3 h4)
/-- a class, as data -/
inductive ClD : D → Value → Prop
  | ty {n : String} : ClD (.ty n) (.type n)
  | ref {a : Addr} : ClD (.ref a) (.ref a)
theorem ClD.ok {K : PySem.W.Frag} {N : Addr → Prop} {d : D} {u : Value} {v : V} (h : ClD d u) (r : Rep K N H d v) : ClsV v u := by
  cases h with
  | ty => rw [rep_ty] at r; subst r; exact .ty _
  | ref => rw [rep_ref] at r; subst r; exact .own _
theorem bf_isi {d c : D} {t u : Value} {b : Bool} (h1 : TyD C.M.K O d t) (h2 : ClD c u) (h3 : PySem.W.kitOne C.M.K t u = some b) (q : Q (.bl b) O) : BF C (.builtin "isinstance") [d, c] Γ O Q := bf_of (fun X ok => by have := call_isi (X := X); rw [ok.K] at this; exact this) fun σ H vs S r0 k hk => by
  obtain ⟨v, w, rfl, r1, r2⟩ := reps2 r0
  exact ⟨v, w, t, u, b, rfl, h2.ok r2, h1.ok S.own r1, h3, hk.at q S (rep_bl.mpr rfl)⟩
theorem paired_cld {K : PySem.W.Frag} {N : Addr → Prop} : ∀ {cs : List D} {us : List Value} {vs : List V}, Paired ClD cs us → Reps K N H cs vs → Paired ClsV vs us
  | _, _, _, .nil, h => by rw [reps_nil] at h; subst h; exact .nil
  | _, _, _, .cons c p, h => by
    rw [reps_cons] at h
    obtain ⟨x, r, rfl, a, h⟩ := h
    exact .cons (c.ok a) (paired_cld p h)
theorem bf_isiT {d : D} {cs : List D} {t : Value} {us : List Value} {b : Bool} (h1 : TyD C.M.K O d t) (h2 : Paired ClD cs us) (h3 : PySem.W.kitAny C.M.K t us = some b) (q : Q (.bl b) O) : BF C (.builtin "isinstance") [d, .tup cs] Γ O Q := bf_of (fun X ok => by have := call_isiT (X := X); rw [ok.K] at this; exact this) fun σ H vs S r0 k hk => by
  obtain ⟨v, w, rfl, r1, r2⟩ := reps2 r0
  obtain ⟨p, xs, rfl, e, rx⟩ := sq_of_tup r2
  exact ⟨v, p, xs, t, us, b, rfl, e, paired_cld h2 rx, h1.ok S.own r1, h3, hk.at q S (rep_bl.mpr rfl)⟩
end
end DL
namespace DL
open PySem PySem.Spec PyProof.Rows L2

/-! ### slices -/
def OWt (X : Cx) (e : Option Expr) (σ : St) (H : Hp) (Q : Option Int → Hp → Prop) : Prop :=
  ∀ (pins : List (Addr × Obj)) (s : Shared), Inv X pins σ H s → wpAny (model X.prog X.w) X.A (evalPart e X.env) (fun u s' => ∃ o H', Inv X pins σ H' s' ∧ IsPart u o ∧ Q o H') X.xe s
theorem po_owt {X : Cx} {e : Option Expr} : PO X e (OWt X e) := ⟨fun pins s _ _ _ I h => h pins s I⟩
structure WO (C : CD) (X : Cx) (e : Option Expr) (Γ : En) (O : Own) (Q : Option Int → Own → Prop) : Prop where
  run :
    Ok C X → ∀ σ H, Sat C Γ O σ H → ∀ k : Option Int → Hp → Prop, (∀ o H' O', Q o O' → Sat C Γ O' σ H' → Le O H O' H' → k o H') → OWt X e σ H k
instance {C : CD} {X : Cx} {e : Option Expr} {Γ : En} {O : Own} {Q : Option Int → Own → Prop} : CoeFun (WO C X e Γ O Q) (fun _ =>
  Ok C X → ∀ σ H, Sat C Γ O σ H → ∀ k : Option Int → Hp → Prop, (∀ o H' O', Q o O' → Sat C Γ O' σ H' → Le O H O' H' → k o H') → OWt X e σ H k) := ⟨WO.run⟩
def cutD (xs : List D) (lo hi : Option Int) : List D := (xs.drop (HT.sIx xs.length 0 lo)).take (HT.sIx xs.length xs.length hi - HT.sIx xs.length 0 lo)
theorem reps_drop {K : PySem.W.Frag} {N : Addr → Prop} {H : Hp} : ∀ {ds : List D} {xs : List V} (n : Nat), Reps K N H ds xs → Reps K N H (ds.drop n) (xs.drop n)
  | ds, xs, 0, r => by simpa using r
  | [], xs, n + 1, r => by rw [reps_nil] at r; subst r; simpa using reps_nil.mpr rfl
  | d :: ds, xs, n + 1, r => by
    rw [reps_cons] at r
    obtain ⟨x, ys, rfl, _, r⟩ := r
    simpa using reps_drop n r
theorem reps_take {K : PySem.W.Frag} {N : Addr → Prop} {H : Hp} : ∀ {ds : List D} {xs : List V} (n : Nat), Reps K N H ds xs → Reps K N H (ds.take n) (xs.take n)
  | ds, xs, 0, r => by simpa using reps_nil.mpr rfl
  | [], xs, n + 1, r => by rw [reps_nil] at r; subst r; simpa using reps_nil.mpr rfl
  | d :: ds, xs, n + 1, r => by
    rw [reps_cons] at r
    obtain ⟨x, ys, rfl, a, r⟩ := r
    rw [List.take_succ_cons, List.take_succ_cons]
    exact reps_cons.mpr ⟨x, _, rfl, a, reps_take n r⟩
theorem reps_cut {K : PySem.W.Frag} {N : Addr → Prop} {H : Hp} {ds : List D} {xs : List V} {lo hi : Option Int} (r : Reps K N H ds xs) : Reps K N H (cutD ds lo hi) (cutV xs lo hi) := by
  unfold cutD cutV
  rw [reps_len r]
  exact reps_take _ (reps_drop _ r)
theorem reps_setI {K : PySem.W.Frag} {N : Addr → Prop} {H : Hp} {d : D} {v : V} (rv : Rep K N H d v) : ∀ {ds : List D} {xs : List V} (j : Nat), Reps K N H ds xs → Reps K N H (ds.set j d) (xs.set j v)
  | [], xs, j, r => by rw [reps_nil] at r; subst r; simpa using reps_nil.mpr rfl
  | e :: ds, xs, 0, r => by
    rw [reps_cons] at r
    obtain ⟨x, ys, rfl, a, r⟩ := r
    exact reps_cons.mpr ⟨v, ys, rfl, rv, r⟩
  | e :: ds, xs, j + 1, r => by
    rw [reps_cons] at r
    obtain ⟨x, ys, rfl, a, r⟩ := r
    exact reps_cons.mpr ⟨x, _, rfl, a, reps_setI rv j r⟩
def putD (f : Str) (v : D) : List (Str × D) → List (Str × D)
  | [] => [(f, v)]
  | (g, x) :: r => if g = f then (g, v) :: r else (g, x) :: putD f v r
theorem repf_put {K : PySem.W.Frag} {N : Addr → Prop} {H : Hp} {f : Str} {d : D} {v : V} (rv : Rep K N H d v) : ∀ {fs : List (Str × D)} {gs : List (Str × V)}, RepF K N H fs gs → RepF K N H (putD f d fs) (putF f v gs)
  | [], _, h => by
    simp only [RepF] at h
    subst h
    simp only [putD, putF, RepF]
    exact ⟨v, [], rfl, rv, rfl⟩
  | (g, e) :: fs, _, h => by
    simp only [RepF] at h
    obtain ⟨x, r, rfl, a, h⟩ := h
    simp only [putD, putF]
    by_cases q : g = f
    · rw [if_pos q, if_pos q]
      simp only [RepF]
      exact ⟨v, r, rfl, rv, h⟩
    · rw [if_neg q, if_neg q]
      simp only [RepF]
      exact ⟨x, _, rfl, a, repf_put rv h⟩
theorem nd_inj {N : List Str} {i j : Nat} {x : Str} (nd : N.Nodup) (h : N[i]? = some x) (g : N[j]? = some x) : i = j :=
  (List.getElem?_inj (List.getElem?_eq_some_iff.mp h).1 nd).mp (h.trans g.symm)
section
variable {K : PySem.W.Frag} {N : Addr → Prop} {H : Hp}
theorem own_le {O O' : Own} {a : Addr} {od od' : OD} (h : OUp O a od od' O') (H : Hp) : Le O H O' H := ⟨fun _ _ e _ => e, fun b hb => .inl (by rw [Own.has, ← h.keys]; exact hb)⟩
end

section
variable {C : CD} {X : Cx} {Γ Γ' : En} {O : Own} {Q : D → Own → Prop} {QO : Option Int → Own → Prop} {QT : Bool → Own → Prop} {QA : List D → Own → Prop} {R : En → Own → Prop} {N : De} {pos p2 : Pos} {a b c e o i : Expr} {es : List Expr} {σ : St} {H : Hp}
theorem wo_none (q : QO none O) : WO C X none Γ O QO := .mk fun ok σ H S k hk => fun pins s I => po_none.run pins s σ H k I (hk none H O q S (Le.refl _ _))
theorem wo_some (h : WE C X e Γ O fun d O1 => ∃ n, d = .int n ∧ QO (some n) O1) : WO C X (some e) Γ O QO := .mk fun ok σ H S k hk => fun pins s I => (po_some pe_ew).run pins s σ H k I
  (h ok σ H S _ fun v H1 d O1 q1 S1 l1 r1 => by
    obtain ⟨n, rfl, q⟩ := q1
    exact ⟨n, rep_int.mp r1, hk (some n) H1 O1 q S1 l1⟩)
/-- a part of what is given -/
inductive SlD : Own → D → Option Int → Option Int → (D → Own → Prop) → Prop
  | lst {O : Own} {d : D} {ds : List D} {lo hi : Option Int} {Q : D → Own → Prop} : SqLs O d ds → Q (.lst (cutD ds lo hi)) O → SlD O d lo hi Q
  | lstO {O : Own} {d : D} {ds : List D} {lo hi : Option Int} {Q : D → Own → Prop} : SqLs O d ds → (∀ p, ¬ O.has p → Q (.ref p) ((p, .lst (cutD ds lo hi)) :: O)) → SlD O d lo hi Q
  | tup {O : Own} {d : D} {ds : List D} {lo hi : Option Int} {Q : D → Own → Prop} : d = .tup ds → Q (.tup (cutD ds lo hi)) O → SlD O d lo hi Q
  | str {O : Own} {d : D} {z : Str} {lo hi : Option Int} {Q : D → Own → Prop} : d = .str z → z.length ≤ sizeLine → Q (.str (cutS z lo hi)) O → SlD O d lo hi Q
theorem cut_whole {ds : List D} {lo hi : Option Int} (h : HT.sIx ds.length 0 lo = 0 ∧ HT.sIx ds.length ds.length hi = ds.length) : cutD ds lo hi = ds := by
  unfold cutD
  rw [h.1, h.2]
  simp
theorem we_sl {lo hi : Option Expr} (h : WE C X e Γ O fun d O1 => WO C X lo Γ O1 fun l O2 => WO C X hi Γ O2 fun u O3 => SlD O3 d l u Q) : WE C X (.Subscript e (.Slice lo hi none p2) pos) Γ O Q := .mk fun ok σ H S k hk =>
  ew_of (pe_slice ((sl_list.or sl_tupA).or sl_str) pe_ew po_owt po_owt) (h ok σ H S _ fun v H1 d O1 q1 S1 l1 r1 => q1 ok σ H1 S1 _ fun l H2 O2 q2 S2 l2 => q2 ok σ H2 S2 _ fun u H3 O3 q3 S3 l3 => by
    have r3 := Rep.le (l2.trans l3) r1
    have hk3 := hk.le ((l1.trans l2).trans l3)
    cases q3 with
    | lst sq q =>
      obtain ⟨p, xs, rfl, hx, rx⟩ := sq.ok S3.own r3
      refine .inl (.inl ⟨p, xs, rfl, by rw [ok.K]; exact hx, fun t ht => hk3.new S3 ht q ?_⟩)
      simp only [Rep]
      exact ⟨t, _, rfl, S3.own.nothas ht, upd_same, Reps.le (Le.new_obj O3 ht) (reps_cut rx)⟩
    | lstO sq q =>
      obtain ⟨p, xs, rfl, hx, rx⟩ := sq.ok S3.own r3
      refine .inl (.inl ⟨p, xs, rfl, by rw [ok.K]; exact hx, fun t ht => hk3.newO S3 ht (q t (S3.own.nothas ht)) ⟨_, upd_same, ?_⟩⟩)
      refine Reps.le (⟨fun a u e _ => by rw [upd_ne (ne_of_none e ht)]; exact e, fun a ha => ?_⟩ : Le O3 H3 _ _) (reps_cut rx)
      simp only [Own.has, List.map_cons, List.mem_cons] at ha
      rcases ha with z | z
      · exact .inr (by rw [z]; exact ht)
      · exact .inl z
    | tup ed q =>
      subst ed
      obtain ⟨p, xs, rfl, hx, rx⟩ := sq_of_tup r3
      refine .inl (.inr ⟨p, xs, rfl, .inl (.inl hx), fun hw => ?_, fun _ t ht => hk3.new S3 ht q ?_⟩)
      · rw [reps_len rx] at hw
        rw [cut_whole hw] at q
        exact hk3.at q S3 r3
      · simp only [Rep]
        exact ⟨t, _, rfl, S3.own.nothas ht, upd_same, Reps.le (Le.new_obj O3 ht) (reps_cut rx)⟩
    | str ed hz q =>
      subst ed
      exact .inr ⟨_, rep_str.mp r3, hz, hk3.at q S3 (rep_str.mpr rfl)⟩)

/-! ### stores -/
/-- o[i] = .., an owned list -/
theorem wg_sub {d : D} (ha : ∀ env v, assign (.Subscript o i pos) env v = (do
      let ov ← holding [v] (eval o env)
      let iv ← holding [v, ov] (eval i env)
      standAt pos
      holding [v, ov, iv] (setItem ov iv v)
      release [v, ov, iv] [])) (h : WE C X o Γ O fun x O1 => WE C X i Γ O1 fun y O2 => ∃ p ds n j O3, x = .ref p ∧ y = .int n ∧ ixN ds.length n = some j ∧ OUp O2 p (.lst ds) (.lst (ds.set j d)) O3 ∧ R Γ O3) : WG C X (.Subscript o i pos) d Γ O R := .mk fun ok σ H S v r k hk =>
  gw_of (pg_sub pe_ew pe_ew set_list (ha _)) (h ok σ H S _ fun ov H1 x O1 q1 S1 l1 r1 => q1 ok σ H1 S1 _ fun iv H2 y O2 q2 S2 l2 r2 => by
    obtain ⟨p, ds, n, j, O3, rfl, rfl, hj, up, q⟩ := q2
    obtain ⟨xs, ex, rx⟩ := S2.own.at_ p _ up.at_.1.mem
    refine ⟨p, xs, n, j, rep_ref.mp r1, rep_int.mp r2, ex, by rw [reps_len rx]; exact hj, ?_⟩
    have l3 : Le O2 H2 O3 (upd H2 p (.lst (xs.set j v))) := up.le
    have w3 : OwnOk C.M.K O3 (upd H2 p (.lst (xs.set j v))) := up.own S2.own ⟨_, upd_same, reps_setI (Rep.le ((l1.trans l2).trans l3) r) j (Reps.le l3 rx)⟩
    exact hk σ _ Γ O3 q (S2.step l3 w3) ((l1.trans l2).trans l3))
/-- o.f = value, an owned instance -/
theorem ws_fld {f : Str} {pos' : Pos} (hs : ∀ env, swapsWith e (some (.Attribute o f pos')) pos.line env = pure false)
    (h : WE C X e Γ O fun d O1 => WE C X o Γ O1 fun x O2 => ∃ p Cl fs O3, x = .ref p ∧ OUp O2 p (.ins Cl fs) (.ins Cl (putD f d fs)) O3 ∧ Cls C.M.K Cl ∧ NoAttr C.M.K Cl f ∧ fs.length < 1000 ∧ N.nx Γ O3) : WS C X (.Assign [.Attribute o f pos'] e pos) Γ O N := .mk fun ok σ H S D hD =>
  sw_of (ps_fld pe_ew pe_ew (hs _)) (h ok σ H S _ fun v H1 d O1 q1 S1 l1 r1 => q1 ok σ H1 S1 _ fun ov H2 x O2 q2 S2 l2 r2 => by
    obtain ⟨p, Cl, fs, O3, rfl, up, cl, no, hl, q⟩ := q2
    obtain ⟨dx, gs, ex, rx⟩ := S2.own.at_ p _ up.at_.1.mem
    refine ⟨p, Cl, dx, gs, rep_ref.mp r2, ex, by rw [ok.K]; exact cl, by rw [ok.K]; exact no, by rw [repf_len rx]; exact hl, ?_⟩
    have l3 : Le O2 H2 O3 (upd H2 p (.ins Cl dx (putF f v gs))) := up.le
    have w3 : OwnOk C.M.K O3 (upd H2 p (.ins Cl dx (putF f v gs))) := up.own S2.own ⟨_, _, upd_same, repf_put (Rep.le (l2.trans l3) r1) (RepF.le l3 rx)⟩
    exact hD.nx σ _ Γ O3 q (S2.step l3 w3))
/-- x += e, x -= e, ints -/
theorem ws_augA {x : Str} {n : Int} {pos' : Pos} (hx : x ∈ C.Ls) (hv : At Γ x (.int n)) (h : WE C X e Γ O fun d O1 => ∃ m Γ1, d = .int m ∧ Up Γ x (some (.int (n + m))) Γ1 ∧ N.nx Γ1 O1) : WS C X (.AugAssign (.Name x pos') .Add e pos) Γ O N := .mk fun ok σ H S D hD => by
  obtain ⟨j, v, g1, g2, g3⟩ := hv.get S.sl
  rw [S.nm] at g1
  have l := ok.loc x hx
  refine sw_of (ps_aug (i := j) (by rw [ok.N]; exact ok.nd) (by rw [ok.N]; exact g1) l.1 pe_ew ip_add l.2) ⟨v, g2, h ok σ H S _ fun u H1 d O1 q1 S1 l1 r1 => ?_⟩
  obtain ⟨m, Γ1, rfl, u', q⟩ := q1
  refine ⟨n, m, rep_int.mp g3, rep_int.mp r1, ?_⟩
  obtain ⟨i', h1, h2⟩ := u'.set (v := .int (n + m)) S1.sl (rep_int.mpr rfl)
  rw [S1.nm] at h1
  have : i' = j := nd_inj ok.nd h1 g1
  subst this
  exact hD.nx _ H1 Γ1 O1 q ⟨by rw [u'.nm]; exact S1.nm, h2, S1.own, S1.le⟩
/-- o.f += e, ints -/
theorem ws_fldaug {f : Str} {tpos : Pos} (h : WE C X o Γ O fun x O1 => ∃ p Cl fs n, x = .ref p ∧ OAt O1 p (.ins Cl fs) ∧ Cls C.M.K Cl ∧ NoAttr C.M.K Cl f ∧ FAt fs f (.int n) ∧ WE C X e Γ O1 fun d O2 => ∃ m fs2 O3, d = .int m ∧ OUp O2 p (.ins Cl fs2) (.ins Cl (putD f (.int (n + m)) fs2)) O3 ∧ fs2.length < 1000 ∧ N.nx Γ O3) : WS C X (.AugAssign (.Attribute o f tpos) .Add e pos) Γ O N := .mk fun ok σ H S D hD =>
  sw_of (ps_fldaug pe_ew pe_ew in_add) (h ok σ H S _ fun ov H1 x O1 q1 S1 l1 r1 => by
    obtain ⟨p, Cl, fs, n, rfl, at_, cl, no, fa, q⟩ := q1
    obtain ⟨dx, gs, ex, rx⟩ := S1.own.at_ p _ at_.mem
    obtain ⟨u, hu, ru⟩ := fa.get rx
    refine ⟨p, Cl, dx, gs, u, rep_ref.mp r1, ex, by rw [ok.K]; exact cl, by rw [ok.K]; exact no, hu, ?_⟩
    refine q ok σ H1 S1 _ fun v H2 d O2 q2 S2 l2 r2 => ?_
    obtain ⟨m, fs2, O3, rfl, up, hl, q⟩ := q2
    obtain ⟨dx2, gs2, ex2, rx2⟩ := S2.own.at_ p _ up.at_.1.mem
    refine ⟨n, m, rep_int.mp ru, rep_int.mp r2, dx2, gs2, ex2, by rw [repf_len rx2]; exact hl, ?_⟩
    have l3 : Le O2 H2 O3 (upd H2 p (.ins Cl dx2 (putF f (.int (n + m)) gs2))) := up.le
    have w3 : OwnOk C.M.K O3 (upd H2 p (.ins Cl dx2 (putF f (.int (n + m)) gs2))) := up.own S2.own ⟨_, _, upd_same, repf_put (rep_int.mpr rfl) (RepF.le l3 rx2)⟩
    exact hD.nx σ _ Γ O3 q (S2.step l3 w3))
/-- x, y = a, b -/
theorem ws_par {x y : Str} {px py pt : Pos} {kt k2 pt2} (hxy : x ≠ y) (nx : x ∈ C.N) (ny : y ∈ C.N) (lx : C.sc.names.lookup x = some .local) (ly : C.sc.names.lookup y = some .local)
    (hw : ∀ env, env.scope = C.sc → swappedStores [.Tuple [.Name x px, .Name y py] kt pt] (.Tuple [a, b] k2 pt2) env = pure (some [x, y]))
    (hs : ∀ env, swapsWithSole [.Tuple [.Name x px, .Name y py] kt pt] (.Tuple [a, b] k2 pt2) pos.line env = pure false)
    (h : WA C X [a, b] Γ O fun ds O1 => ∃ d1 d2 Γ1 Γ2, ds = [d1, d2] ∧ Up Γ x (some d1) Γ1 ∧ Up Γ1 y (some d2) Γ2 ∧ N.nx Γ2 O1) : WS C X (.Assign [.Tuple [.Name x px, .Name y py] kt pt] (.Tuple [a, b] k2 pt2) pos) Γ O N := .mk fun ok σ H S D hD => by
  intro pins s I
  have key : ∀ (i j : Nat), X.N[i]? = some x → X.N[j]? = some y → wpAny (model X.prog X.w) X.A (exec (.Assign [.Tuple [.Name x px, .Name y py] kt pt] (.Tuple [a, b] k2 pt2) pos) X.env) (SP X pins D) X.xe s := fun i j hi hj => by
    have hij : i ≠ j := fun e => by subst e; rw [hi] at hj; exact hxy (Option.some.inj hj)
    refine (ps_par (i := i) (j := j) ok.calm (by rw [ok.N]; exact ok.nd) hi hj hij (by rw [ok.sc]; exact lx) (by rw [ok.sc]; exact ly) pa_aw (hw _ ok.sc) (hs _)).run pins s σ H D I (h ok σ H S _ fun vs H1 ds O1 q1 S1 l1 r1 => ?_)
    obtain ⟨d1, d2, Γ1, Γ2, rfl, u1, u2, q⟩ := q1
    rw [reps_cons] at r1
    obtain ⟨v, vs', rfl, rv, r1⟩ := r1
    rw [reps_cons] at r1
    obtain ⟨w, vs'', rfl, rw', r1⟩ := r1
    rw [reps_nil] at r1
    subst r1
    obtain ⟨i1, a1, b1⟩ := u1.set S1.sl rv
    obtain ⟨j1, a2, b2⟩ := u2.set b1 rw'
    rw [S1.nm] at a1
    rw [u1.nm, S1.nm] at a2
    have nd := ok.nd
    have e1 : i1 = i := by
      rw [ok.N] at hi
      exact nd_inj nd a1 hi
    have e2 : j1 = j := by
      rw [ok.N] at hj
      exact nd_inj nd a2 hj
    subst e1 e2
    exact ⟨v, w, rfl, hD.nx _ H1 Γ2 O1 q ⟨by rw [u2.nm, u1.nm]; exact S1.nm, b2, S1.own, S1.le⟩⟩
  obtain ⟨i, hi⟩ := List.mem_iff_getElem?.mp nx
  obtain ⟨j, hj⟩ := List.mem_iff_getElem?.mp ny
  exact key i j (by rw [ok.N]; exact hi) (by rw [ok.N]; exact hj)
end
end DL
namespace DL
open PySem PySem.Spec PyProof.Rows L2

/-! ### the law's end -/
/-- the law's promise: a list of at most n ints in, True out -/
def TLaw (n : Nat) : TF := fun ds O QD _ => ∃ ns : List Int, ds = [.klst (ns.map .int)] ∧ O = [] ∧ ns.length ≤ n ∧ (∀ O', QD (.bl true) O')
/-- what is tracked at the law's entry: the script, or nothing -/
structure Entry (K : PySem.W.Frag) (h : Heap) (a : Addr) (ob : Obj) (xs : List V) (H : Hp) : Prop where
  only : ∀ b, H b ≠ none → b = a
  what : H a = none ∨ (H a = some (.frz ob (.lst xs)) ∧ K.lookup a = none)
  seen : SqL K H a xs
theorem entry_of {K : PySem.W.Frag} {h : Heap} {a : Addr} {its : List Value} {xs : List V} (KX : K.In h) (ha : h.get? a = some { cls := .type "list", data := .seq its.toArray }) (r : Vals xs its) (z : xs.length ≤ sizeLine) :
    ∃ H, Entry K h a { cls := .type "list", data := .seq its.toArray } xs H := by
  cases e : K.lookup a with
  | none =>
    refine ⟨upd (fun _ => none) a (.frz { cls := .type "list", data := .seq its.toArray } (.lst xs)), fun b n => ?_, .inr ⟨upd_same, e⟩, .inl (.inr ⟨_, upd_same⟩)⟩
    exact Classical.byContradiction fun q => n (upd_ne q)
  | some o =>
    obtain rfl : { cls := .type "list", data := .seq its.toArray } = o := Option.some.inj (ha.symm.trans (KX a o e))
    exact ⟨fun _ => none, fun b n => absurd rfl n, .inl rfl, .inr ⟨_, its.toArray, 0, e, rfl, rfl, rfl, by rw [List.size_toArray, ← r.length]; exact z, r⟩⟩
theorem law_end {M : Md} {k n : Nat} {a fa : Addr} {fd : FuncData} {x : Str} {mb : Str → Option Value} {s : Shared} {its : List Value} {ns : List Int} (KX : M.K.In s.heap) (hns : s.heap.Ns mainGlobals M.mg) (hb : s.heap.Ns builtinsNs mb)
    (hbb : ∀ x : Str, x ≠ "__name__" → mb x = bootBuiltins x) (hlim : s.heap.NoLimit) (hg : s.gens = #[]) (ha : s.heap.get? a = some { cls := .type "list", data := .seq its.toArray }) (hi : IntsAre its ns) (hl : ns.length ≤ n) (hn : n ≤ sizeLine) (hr : Room k callerA)
    (F : ∀ base : Heap, M.K.In base → base.Ns mainGlobals M.mg → FnG { M with base := base } k fa fd [x] (spD M.K (TLaw n))) (hbd : ∀ (s : Shared) (u : Value), BindsTo s fd ⟨[u], []⟩ [(x, u)]) :
    codeAny (model M.P M.w) callerA (.call (.ref fa) ⟨[.ref a], []⟩) (fun r s' => r = .ok (.ret (.bool true)) ∧ OldK s.heap s'.heap ∧ s'.os = s.os ∧ AllBare s'.gens) s := by
  have r : Vals (ns.map V.int) its := vals_ints hi
  obtain ⟨H, en⟩ := entry_of (xs := ns.map V.int) KX ha r (by rw [List.length_map]; exact Nat.le_trans hl hn)
  -- an object of the old heap that is no list's
  have nd : ∀ (b : Addr) (o : Obj), s.heap.get? b = some o → (∀ v m, o.data ≠ .seq v m) → H b = none := fun b o e d => by
    cases q : H b with
    | none => rfl
    | some u =>
      have := en.only b (by rw [q]; exact fun z => by cases z)
      subst this
      exact absurd (congrArg Obj.data (Option.some.inj (e.symm.trans ha))) (d _ _)
  have ns' : ∀ (b : Addr) (m : Str → Option Value), s.heap.Ns b m → (hidT s.heap H).Ns b m := fun b m ⟨o, es, ep, e, d, q⟩ => ⟨o, es, ep, hidT_get e (nd b o e fun _ _ z => by rw [d] at z; cases z), d, q⟩
  have K' : M.K.In (hidT s.heap H) := fun b o e => by
    refine hidT_get (KX b o e) ?_
    cases q : H b with
    | none => rfl
    | some u =>
      have := en.only b (by rw [q]; exact fun z => by cases z)
      subst this
      rcases en.what with w | ⟨_, w⟩
      · rw [w] at q; cases q
      · rw [w] at e; cases e
  have hok : HOk M.P M.w H s.heap := fun b u q => by
    have := en.only b (by rw [q]; exact fun z => by cases z)
    subst this
    rcases en.what with w | ⟨w, _⟩
    · rw [w] at q; cases q
    · rw [w] at q; cases q
      exact ⟨ha, by rw [List.length_map]; exact Nat.le_trans hl hn, its, 0, r, ha⟩
  have e0 : Env0 M.P M.w M.K M.mg (hidT s.heap H) callerA [] s H :=
    { frames := rfl, mod := ⟨K', ns' _ _ hns, ⟨mb, ns' _ _ hb, hbb⟩, let ⟨mc, q1, q2⟩ := hlim; ⟨mc, ns' _ _ q1, q2⟩⟩, bs := fun b o e => of_hidT e, bsz := Nat.le_of_eq (hidT_size _ _), funs := trivial, frf := fun b q => (by cases q), hok := hok, bare := .of_eq hg }
  have sp : spD M.K (TLaw n) [.ref a] H (fun v _ => v = .bl true) fun _ _ _ => False := by
    refine ⟨[.klst (ns.map .int)], [], fun d _ => d = .bl true, fun _ _ => False, ⟨List.nodup_nil, fun _ _ q => by cases q⟩, ?_, ⟨ns, rfl, rfl, hl, fun _ => rfl⟩, fun v H' d O' q _ _ r' => ?_, fun _ _ _ _ _ q _ _ _ => q⟩
    · rw [reps_cons]
      refine ⟨_, [], rfl, ?_, reps_nil.mpr rfl⟩
      simp only [Rep]
      refine ⟨a, ns.map V.int, rfl, ?_, reps_ints.mpr rfl⟩
      rcases en.seen with q | q
      · exact .inl ⟨fun z => by simp [Own.has] at z, q⟩
      · exact .inr q
    · subst q
      exact rep_bl.mp r'
  refine codeAny_mono ((F _ K' (ns' _ _ hns)).run callerA [] s H ⟨[.ref a], []⟩ [.ref a] [.ref a] _ _ hr rfl e0 (hbd s (.ref a)) (.cons rfl .nil) sp) fun res s' q => ?_
  match res, q with
  | .error e, q =>
    obtain ⟨_, _, _, _, _, _, _, _, _, _, _, _, z⟩ := q
    exact z.elim
  | .ok (.ret u), q =>
    obtain ⟨v, H', os, bare, un, hok', rv, qv⟩ := q
    subst qv
    obtain rfl : u = Value.bool true := rv
    refine ⟨rfl, OldK.of_keep fun b o e => ?_, os, bare⟩
    cases z : H b with
    | none => exact un.keep b o e z (fun q => by cases q) (fun q => by cases q)
    | some t =>
      have := en.only b (by rw [z]; exact fun q => by cases q)
      subst this
      rcases en.what with w | ⟨w, _⟩
      · rw [w] at z; cases z
      · obtain ⟨e2, _⟩ := hok' b _ (un.frzs b _ _ w)
        rw [ha] at e
        cases e
        exact e2
/-- the goal that the head leaves, from the law's promise -/
theorem walk_G {l : PySem.W.OpenLaw} {n k : Nat} {q : Program} {loose : List Str} {XP : (Str → Option Value) → Heap → Prop} {YP : World → Heap → Prop} {d : DefRec} {K : Params → PySem.W.Frag} {x : Str}
    (hn : l.most = some n) (hn2 : n ≤ sizeLine) (hdf : d.params.defaults = []) (hr : Room k callerA) (hY : ∀ (w : World) (h : Heap), YP w h → (K w.params).In h)
    (F : ∀ (w : World) (mg : Str → Option Value) (fa : Addr) (h : Heap), (K w.params).In h → h.Ns mainGlobals mg → XP mg h → mg d.name = some (.ref fa) →
      ∃ fd : FuncData, (∀ (s : Shared) (u : Value), BindsTo s fd ⟨[u], []⟩ [(x, u)]) ∧
        ∀ base : Heap, (K w.params).In base → base.Ns mainGlobals mg → FnG ⟨l.prog, w, K w.params, mg, base⟩ k fa fd [x] (spD (K w.params) (TLaw n))) :
    PySem.W.WalkO q loose XP YP l.row.toRowW d [] (fun f vs => PySem.call f vs) := by
  refine Att.attach_callB hn hdf fun w s₀ s₁ mg mb fa o pm cd doc a vs ns G Y ho hd hcd hmg hobj hints hlen hbits hg => ?_
  have KX := hY w _ Y
  obtain ⟨fd, hb, hF⟩ := F w mg fa _ KX G.T.g G.X hmg
  exact law_end (M := ⟨l.prog, w, K w.params, mg, s₁.heap⟩) KX G.T.g G.T.b G.T.builtins G.T.nolimit hg hobj hints hlen hn2 hr hF hb
end DL
namespace DL
open PySem PySem.Spec PyProof.Rows L2

/-! ### an owned list behind a predicate -/
theorem OUp.re {O O' : Own} {a : Addr} {o o' : OD} (h : OUp O a o o' O') (o2 : OD) : ∃ O2, OUp O a o o2 O2 ∧ OUp O2 a o2 o' O' := by
  induction h with
  | here => exact ⟨_, .here, .here⟩
  | there _ ih =>
    obtain ⟨O2, h1, h2⟩ := ih
    exact ⟨_, .there h1, .there h2⟩
theorem OUp.same {O : Own} {a : Addr} {o : OD} (h : OAt O a o) : OUp O a o o O := by
  induction h with
  | here => exact .here
  | there _ ih => exact .there ih
section
variable {K : PySem.W.Frag} {O O1 : Own} {H : Hp}
theorem own_swap {p : Addr} {od od' : OD} (u : OUp O p od od' O1) (w : OwnOk K O H) (h : RepO K O.has H p od → RepO K O1.has H p od') : OwnOk K O1 H := by
  refine ⟨by rw [u.keys]; exact w.nd, fun b ob hb => ?_⟩
  by_cases e : b = p
  · subst e
    rw [u.self w.nd ob hb]
    exact h (w.at_ b _ u.at_.1.mem)
  · exact RepO.le (own_le u H) (fun _ q => q) (w.at_ b ob (u.other w.nd b ob hb e))
theorem own_open {p : Addr} {P : List D → Prop} {F : List D → Own} (u : ∀ ds, OUp O p (.box P) (.lst ds) (F ds)) (w : OwnOk K O H) : ∃ ds, P ds ∧ OwnOk K (F ds) H := by
  obtain ⟨ds, xs, hP, e, r⟩ := w.at_ p _ (u []).at_.1.mem
  exact ⟨ds, hP, own_swap (u ds) w fun _ => ⟨xs, e, Reps.le (own_le (u ds) H) r⟩⟩
theorem own_close {p : Addr} {P : List D → Prop} {ds : List D} (u : OUp O p (.lst ds) (.box P) O1) (hP : P ds) (w : OwnOk K O H) : OwnOk K O1 H :=
  own_swap u w fun ⟨xs, e, r⟩ => ⟨ds, xs, hP, e, Reps.le (own_le u H) r⟩
theorem own_weak {p : Addr} {P P' : List D → Prop} (u : OUp O p (.box P) (.box P') O1) (h : ∀ ds, P ds → P' ds) (w : OwnOk K O H) : OwnOk K O1 H :=
  own_swap u w fun ⟨ds, xs, hP, e, r⟩ => ⟨ds, xs, h ds hP, e, Reps.le (own_le u H) r⟩
end
section
variable {C : CD} {X : Cx} {Γ : En} {O O1 : Own} {N : De} {sts : List Stmt} {e : Expr} {Q : D → Own → Prop}
theorem wss_own (h : ∀ H, OwnOk C.M.K O H → ∃ O1, OwnOk C.M.K O1 H ∧ Le O H O1 H ∧ WSs C X sts Γ O1 N) : WSs C X sts Γ O N := .mk fun ok σ H S D hD => by
  obtain ⟨O1, w, l, q⟩ := h H S.own
  exact q ok σ H (S.step l w) D hD
theorem wss_open {p : Addr} {P : List D → Prop} {F : List D → Own} (u : ∀ ds, OUp O p (.box P) (.lst ds) (F ds)) (h : ∀ ds, P ds → WSs C X sts Γ (F ds) N) : WSs C X sts Γ O N :=
  wss_own fun H w => by
    obtain ⟨ds, hP, w'⟩ := own_open u w
    exact ⟨_, w', own_le (u ds) H, h ds hP⟩
theorem wss_close {p : Addr} {P : List D → Prop} {ds : List D} (u : OUp O p (.lst ds) (.box P) O1) (hP : P ds) (h : WSs C X sts Γ O1 N) : WSs C X sts Γ O N :=
  wss_own fun H w => ⟨_, own_close u hP w, own_le u H, h⟩
theorem wss_weak {p : Addr} {P P' : List D → Prop} (u : OUp O p (.box P) (.box P') O1) (hP : ∀ ds, P ds → P' ds) (h : WSs C X sts Γ O1 N) : WSs C X sts Γ O N :=
  wss_own fun H w => ⟨_, own_weak u hP w, own_le u H, h⟩
theorem we_weak (h : DL.WE C X e Γ O fun d O1 => ∃ (p : Addr) (P P' : List D → Prop) (O2 : Own), OUp O1 p (.box P) (.box P') O2 ∧ (∀ ds, P ds → P' ds) ∧ Q d O2) : DL.WE C X e Γ O Q := .mk fun ok σ H S k hk =>
  h ok σ H S k fun v H1 d O1 q S1 l r => by
    obtain ⟨p, P, P', O2, u, hP, q⟩ := q
    exact hk v H1 d O2 q (S1.step (own_le u H1) (own_weak u hP S1.own)) (l.trans (own_le u H1)) (Rep.le (own_le u H1) r)
theorem we_close (h : WE C X e Γ O fun d O1 => ∃ (p : Addr) (P : List D → Prop) (ds : List D) (O2 : Own), OUp O1 p (.lst ds) (.box P) O2 ∧ P ds ∧ Q d O2) : WE C X e Γ O Q := .mk fun ok σ H S k hk =>
  h ok σ H S k fun v H1 d O1 q S1 l r => by
    obtain ⟨p, P, ds, O2, u, hP, q⟩ := q
    exact hk v H1 d O2 q (S1.step (own_le u H1) (own_close u hP S1.own)) (l.trans (own_le u H1)) (Rep.le (own_le u H1) r)
end

/-! ### the built-in names -/
structure Bi (mg : Str → Option Value) : Prop where
  int_ : mg "int" = none
  len_ : mg "len" = none
  abs_ : mg "abs" = none
  list_ : mg "list" = none
  tuple_ : mg "tuple" = none
  range_ : mg "range" = none
  isinstance_ : mg "isinstance" = none
  sum_ : mg "sum" = none
  enumerate_ : mg "enumerate" = none
  repr_ : mg "repr" = none
  str_ : mg "str" = none
  sorted_ : mg "sorted" = none
  dict_ : mg "dict" = none
  max_ : mg "max" = none
  min_ : mg "min" = none
  all_ : mg "all" = none
  any_ : mg "any" = none
  bool_ : mg "bool" = none
  iter_ : mg "iter" = none
  super_ : mg "super" = none
  set_ : mg "set" = none
  zip_ : mg "zip" = none
  object_ : mg "object" = none
theorem bt_int : bootBuiltins "int" = some (.type "int") := by first | rfl | decide +kernel
theorem bt_len : bootBuiltins "len" = some (.builtin "len") := by first | rfl | decide +kernel
theorem bt_abs : bootBuiltins "abs" = some (.builtin "abs") := by first | rfl | decide +kernel
theorem bt_list : bootBuiltins "list" = some (.type "list") := by first | rfl | decide +kernel
theorem bt_tuple : bootBuiltins "tuple" = some (.type "tuple") := by first | rfl | decide +kernel
theorem bt_range : bootBuiltins "range" = some (.type "range") := by first | rfl | decide +kernel
theorem bt_isinstance : bootBuiltins "isinstance" = some (.builtin "isinstance") := by first | rfl | decide +kernel
theorem bt_sum : bootBuiltins "sum" = some (.builtin "sum") := by first | rfl | decide +kernel
theorem bt_enumerate : bootBuiltins "enumerate" = some (.type "enumerate") := by first | rfl | decide +kernel
theorem bt_repr : bootBuiltins "repr" = some (.builtin "repr") := by first | rfl | decide +kernel
theorem bt_str : bootBuiltins "str" = some (.type "str") := by first | rfl | decide +kernel
theorem bt_sorted : bootBuiltins "sorted" = some (.builtin "sorted") := by first | rfl | decide +kernel
theorem bt_dict : bootBuiltins "dict" = some (.type "dict") := by first | rfl | decide +kernel
theorem bt_max : bootBuiltins "max" = some (.builtin "max") := by first | rfl | decide +kernel
theorem bt_min : bootBuiltins "min" = some (.builtin "min") := by first | rfl | decide +kernel
theorem bt_all : bootBuiltins "all" = some (.builtin "all") := by first | rfl | decide +kernel
theorem bt_any : bootBuiltins "any" = some (.builtin "any") := by first | rfl | decide +kernel
theorem bt_bool : bootBuiltins "bool" = some (.type "bool") := by first | rfl | decide +kernel
theorem bt_iter : bootBuiltins "iter" = some (.builtin "iter") := by first | rfl | decide +kernel
theorem bt_super : bootBuiltins "super" = some (.type "super") := by first | rfl | decide +kernel
theorem bt_set : bootBuiltins "set" = some (.type "set") := by first | rfl | decide +kernel
theorem bt_zip : bootBuiltins "zip" = some (.type "zip") := by first | rfl | decide +kernel
theorem bt_object : bootBuiltins "object" = some (.type "object") := by first | rfl | decide +kernel
section
variable {C : CD} {X : Cx} {Γ : En} {O : Own} {Q : D → Own → Prop} {e : Expr} {es : List Expr} {pos p : Pos}
theorem wb_int (B : Bi C.M.mg) (g : ("int" : Str) ∈ C.Gs) (he : ∀ env, starEach (e :: es) env = (false, eval e env) :: starEach es env) (hpl : ∀ env, (backTo pos (starEach es env)).any (·.1) = false) (h : WA C X (e :: es) Γ O fun ds O1 => BF C (.type "int") ds Γ O1 Q) : WE C X (.Call (.Name "int" p) (e :: es) [] pos) Γ O Q := we_bi B.int_ bt_int ⟨_, .inr rfl⟩ (by decide +kernel) g he hpl h
theorem wb_len (B : Bi C.M.mg) (g : ("len" : Str) ∈ C.Gs) (he : ∀ env, starEach (e :: es) env = (false, eval e env) :: starEach es env) (hpl : ∀ env, (backTo pos (starEach es env)).any (·.1) = false) (h : WA C X (e :: es) Γ O fun ds O1 => BF C (.builtin "len") ds Γ O1 Q) : WE C X (.Call (.Name "len" p) (e :: es) [] pos) Γ O Q := we_bi B.len_ bt_len ⟨_, .inl rfl⟩ (by decide +kernel) g he hpl h
theorem wb_abs (B : Bi C.M.mg) (g : ("abs" : Str) ∈ C.Gs) (he : ∀ env, starEach (e :: es) env = (false, eval e env) :: starEach es env) (hpl : ∀ env, (backTo pos (starEach es env)).any (·.1) = false) (h : WA C X (e :: es) Γ O fun ds O1 => BF C (.builtin "abs") ds Γ O1 Q) : WE C X (.Call (.Name "abs" p) (e :: es) [] pos) Γ O Q := we_bi B.abs_ bt_abs ⟨_, .inl rfl⟩ (by decide +kernel) g he hpl h
theorem wb_list (B : Bi C.M.mg) (g : ("list" : Str) ∈ C.Gs) (he : ∀ env, starEach (e :: es) env = (false, eval e env) :: starEach es env) (hpl : ∀ env, (backTo pos (starEach es env)).any (·.1) = false) (h : WA C X (e :: es) Γ O fun ds O1 => BF C (.type "list") ds Γ O1 Q) : WE C X (.Call (.Name "list" p) (e :: es) [] pos) Γ O Q := we_bi B.list_ bt_list ⟨_, .inr rfl⟩ (by decide +kernel) g he hpl h
theorem wb_tuple (B : Bi C.M.mg) (g : ("tuple" : Str) ∈ C.Gs) (he : ∀ env, starEach (e :: es) env = (false, eval e env) :: starEach es env) (hpl : ∀ env, (backTo pos (starEach es env)).any (·.1) = false) (h : WA C X (e :: es) Γ O fun ds O1 => BF C (.type "tuple") ds Γ O1 Q) : WE C X (.Call (.Name "tuple" p) (e :: es) [] pos) Γ O Q := we_bi B.tuple_ bt_tuple ⟨_, .inr rfl⟩ (by decide +kernel) g he hpl h
theorem wb_isinstance (B : Bi C.M.mg) (g : ("isinstance" : Str) ∈ C.Gs) (he : ∀ env, starEach (e :: es) env = (false, eval e env) :: starEach es env) (hpl : ∀ env, (backTo pos (starEach es env)).any (·.1) = false) (h : WA C X (e :: es) Γ O fun ds O1 => BF C (.builtin "isinstance") ds Γ O1 Q) : WE C X (.Call (.Name "isinstance" p) (e :: es) [] pos) Γ O Q := we_bi B.isinstance_ bt_isinstance ⟨_, .inl rfl⟩ (by decide +kernel) g he hpl h
theorem wb_sum (B : Bi C.M.mg) (g : ("sum" : Str) ∈ C.Gs) (he : ∀ env, starEach (e :: es) env = (false, eval e env) :: starEach es env) (hpl : ∀ env, (backTo pos (starEach es env)).any (·.1) = false) (h : WA C X (e :: es) Γ O fun ds O1 => BF C (.builtin "sum") ds Γ O1 Q) : WE C X (.Call (.Name "sum" p) (e :: es) [] pos) Γ O Q := we_bi B.sum_ bt_sum ⟨_, .inl rfl⟩ (by decide +kernel) g he hpl h
theorem wb_repr (B : Bi C.M.mg) (g : ("repr" : Str) ∈ C.Gs) (he : ∀ env, starEach (e :: es) env = (false, eval e env) :: starEach es env) (hpl : ∀ env, (backTo pos (starEach es env)).any (·.1) = false) (h : WA C X (e :: es) Γ O fun ds O1 => BF C (.builtin "repr") ds Γ O1 Q) : WE C X (.Call (.Name "repr" p) (e :: es) [] pos) Γ O Q := we_bi B.repr_ bt_repr ⟨_, .inl rfl⟩ (by decide +kernel) g he hpl h
theorem wb_str (B : Bi C.M.mg) (g : ("str" : Str) ∈ C.Gs) (he : ∀ env, starEach (e :: es) env = (false, eval e env) :: starEach es env) (hpl : ∀ env, (backTo pos (starEach es env)).any (·.1) = false) (h : WA C X (e :: es) Γ O fun ds O1 => BF C (.type "str") ds Γ O1 Q) : WE C X (.Call (.Name "str" p) (e :: es) [] pos) Γ O Q := we_bi B.str_ bt_str ⟨_, .inr rfl⟩ (by decide +kernel) g he hpl h
theorem wb_sorted (B : Bi C.M.mg) (g : ("sorted" : Str) ∈ C.Gs) (he : ∀ env, starEach (e :: es) env = (false, eval e env) :: starEach es env) (hpl : ∀ env, (backTo pos (starEach es env)).any (·.1) = false) (h : WA C X (e :: es) Γ O fun ds O1 => BF C (.builtin "sorted") ds Γ O1 Q) : WE C X (.Call (.Name "sorted" p) (e :: es) [] pos) Γ O Q := we_bi B.sorted_ bt_sorted ⟨_, .inl rfl⟩ (by decide +kernel) g he hpl h
theorem wb_dict (B : Bi C.M.mg) (g : ("dict" : Str) ∈ C.Gs) (he : ∀ env, starEach (e :: es) env = (false, eval e env) :: starEach es env) (hpl : ∀ env, (backTo pos (starEach es env)).any (·.1) = false) (h : WA C X (e :: es) Γ O fun ds O1 => BF C (.type "dict") ds Γ O1 Q) : WE C X (.Call (.Name "dict" p) (e :: es) [] pos) Γ O Q := we_bi B.dict_ bt_dict ⟨_, .inr rfl⟩ (by decide +kernel) g he hpl h
theorem wb_max (B : Bi C.M.mg) (g : ("max" : Str) ∈ C.Gs) (he : ∀ env, starEach (e :: es) env = (false, eval e env) :: starEach es env) (hpl : ∀ env, (backTo pos (starEach es env)).any (·.1) = false) (h : WA C X (e :: es) Γ O fun ds O1 => BF C (.builtin "max") ds Γ O1 Q) : WE C X (.Call (.Name "max" p) (e :: es) [] pos) Γ O Q := we_bi B.max_ bt_max ⟨_, .inl rfl⟩ (by decide +kernel) g he hpl h
theorem wb_min (B : Bi C.M.mg) (g : ("min" : Str) ∈ C.Gs) (he : ∀ env, starEach (e :: es) env = (false, eval e env) :: starEach es env) (hpl : ∀ env, (backTo pos (starEach es env)).any (·.1) = false) (h : WA C X (e :: es) Γ O fun ds O1 => BF C (.builtin "min") ds Γ O1 Q) : WE C X (.Call (.Name "min" p) (e :: es) [] pos) Γ O Q := we_bi B.min_ bt_min ⟨_, .inl rfl⟩ (by decide +kernel) g he hpl h
theorem wb_all (B : Bi C.M.mg) (g : ("all" : Str) ∈ C.Gs) (he : ∀ env, starEach (e :: es) env = (false, eval e env) :: starEach es env) (hpl : ∀ env, (backTo pos (starEach es env)).any (·.1) = false) (h : WA C X (e :: es) Γ O fun ds O1 => BF C (.builtin "all") ds Γ O1 Q) : WE C X (.Call (.Name "all" p) (e :: es) [] pos) Γ O Q := we_bi B.all_ bt_all ⟨_, .inl rfl⟩ (by decide +kernel) g he hpl h
theorem wb_any (B : Bi C.M.mg) (g : ("any" : Str) ∈ C.Gs) (he : ∀ env, starEach (e :: es) env = (false, eval e env) :: starEach es env) (hpl : ∀ env, (backTo pos (starEach es env)).any (·.1) = false) (h : WA C X (e :: es) Γ O fun ds O1 => BF C (.builtin "any") ds Γ O1 Q) : WE C X (.Call (.Name "any" p) (e :: es) [] pos) Γ O Q := we_bi B.any_ bt_any ⟨_, .inl rfl⟩ (by decide +kernel) g he hpl h
theorem wb_bool (B : Bi C.M.mg) (g : ("bool" : Str) ∈ C.Gs) (he : ∀ env, starEach (e :: es) env = (false, eval e env) :: starEach es env) (hpl : ∀ env, (backTo pos (starEach es env)).any (·.1) = false) (h : WA C X (e :: es) Γ O fun ds O1 => BF C (.type "bool") ds Γ O1 Q) : WE C X (.Call (.Name "bool" p) (e :: es) [] pos) Γ O Q := we_bi B.bool_ bt_bool ⟨_, .inr rfl⟩ (by decide +kernel) g he hpl h
theorem wb_iter (B : Bi C.M.mg) (g : ("iter" : Str) ∈ C.Gs) (he : ∀ env, starEach (e :: es) env = (false, eval e env) :: starEach es env) (hpl : ∀ env, (backTo pos (starEach es env)).any (·.1) = false) (h : WA C X (e :: es) Γ O fun ds O1 => BF C (.builtin "iter") ds Γ O1 Q) : WE C X (.Call (.Name "iter" p) (e :: es) [] pos) Γ O Q := we_bi B.iter_ bt_iter ⟨_, .inl rfl⟩ (by decide +kernel) g he hpl h
theorem wb_set (B : Bi C.M.mg) (g : ("set" : Str) ∈ C.Gs) (he : ∀ env, starEach (e :: es) env = (false, eval e env) :: starEach es env) (hpl : ∀ env, (backTo pos (starEach es env)).any (·.1) = false) (h : WA C X (e :: es) Γ O fun ds O1 => BF C (.type "set") ds Γ O1 Q) : WE C X (.Call (.Name "set" p) (e :: es) [] pos) Γ O Q := we_bi B.set_ bt_set ⟨_, .inr rfl⟩ (by decide +kernel) g he hpl h
theorem wb_zip (B : Bi C.M.mg) (g : ("zip" : Str) ∈ C.Gs) (he : ∀ env, starEach (e :: es) env = (false, eval e env) :: starEach es env) (hpl : ∀ env, (backTo pos (starEach es env)).any (·.1) = false) (h : WA C X (e :: es) Γ O fun ds O1 => BF C (.type "zip") ds Γ O1 Q) : WE C X (.Call (.Name "zip" p) (e :: es) [] pos) Γ O Q := we_bi B.zip_ bt_zip ⟨_, .inr rfl⟩ (by decide +kernel) g he hpl h
end
section
variable {C : CD} {X : Cx} {Γ : En} {O O' : Own} {N : De} {sts : List Stmt} {R : En → Own → Prop} {o i : Expr} {pos : Pos}
theorem wss_openV {p : Addr} {P : List D → Prop} {o' : OD} (hu : OUp O p (.box P) o' O') (h : ∀ ds O1, P ds → OUp O1 p (.lst ds) o' O' → WSs C X sts Γ O1 N) : WSs C X sts Γ O N :=
  wss_own fun H w => by
    have F : ∀ ds, ∃ O1, OUp O p (.box P) (.lst ds) O1 ∧ OUp O1 p (.lst ds) o' O' := fun ds => hu.re (.lst ds)
    obtain ⟨ds, hP, w'⟩ := own_open (F := fun ds => (F ds).choose) (fun ds => (F ds).choose_spec.1) w
    exact ⟨_, w', own_le (F ds).choose_spec.1 H, h ds _ hP (F ds).choose_spec.2⟩
/-- o[i] = .., an owned list among others -/
theorem wg_subV {d : D} {p : Addr} {ds : List D} {o' : OD} (u : OUp O p (.lst ds) o' O') (ha : ∀ env v, assign (.Subscript o i pos) env v = (do
      let ov ← holding [v] (eval o env)
      let iv ← holding [v, ov] (eval i env)
      standAt pos
      holding [v, ov, iv] (setItem ov iv v)
      release [v, ov, iv] [])) (h : WE C X o Γ O fun x O1 => WE C X i Γ O1 fun y O2 => ∃ n j, x = .ref p ∧ y = .int n ∧ ixN ds.length n = some j ∧ O2 = O ∧ ∀ O3, OUp O3 p (.lst (ds.set j d)) o' O' → R Γ O3) : WG C X (.Subscript o i pos) d Γ O R :=
  wg_sub ha (we_imp h fun x O1 q => we_imp q fun y O2 ⟨n, j, ex, ey, hj, eo, k⟩ => by
    subst eo
    obtain ⟨O3, a, b⟩ := u.re (.lst (ds.set j d))
    exact ⟨p, ds, n, j, O3, ex, ey, hj, a, k O3 b⟩)
end

section
variable {C : CD} {X : Cx} {Γ : En} {O : Own} {N : De} {st : Stmt} {rest : List Stmt}
/-- ways that meet again behind st -/
theorem wss_cut (P : En → Own → Prop) (h : WS C X st Γ O { N with nx := P }) (k : ∀ Γ O, P Γ O → WSs C X rest Γ O N) : WSs C X (st :: rest) Γ O N :=
  wss_cons <| .mk fun ok σ H S D hD => h ok σ H S D ⟨fun σ1 H1 Γ1 O1 q S1 => hD.nx σ1 H1 Γ1 O1 (k Γ1 O1 q) S1, hD.rt, hD.bk, hD.ct⟩
end
section
variable {C : CD} {X : Cx} {Γ : En} {O : Own} {Q : D → Own → Prop} {QT : Bool → Own → Prop} {QA : List D → Own → Prop} {QO : Option Int → Own → Prop} {e f : Expr} {es : List Expr} {kws : List Keyword} {pos p : Pos} {x : Str} {oe : Option Expr} {g : Value → Value → Sem Value} {a b : D} {ds : List D} {v : Value}
/-- the rest out of sight -/
theorem wss_step {N : De} {st : Stmt} {rest : List Stmt} (h : let P : En → Own → Prop := fun Γ1 O1 => WSs C X rest Γ1 O1 N; WS C X st Γ O ⟨P, N.rt, N.bk, N.ct⟩) : WSs C X (st :: rest) Γ O N := wss_cons h
theorem ws_cut {N : De} {st : Stmt} (P : En → Own → Prop) (h : WS C X st Γ O ⟨P, N.rt, N.bk, N.ct⟩) (k : ∀ Γ O, P Γ O → N.nx Γ O) : WS C X st Γ O N :=
  .mk fun ok σ H S D hD => h ok σ H S D ⟨fun σ1 H1 Γ1 O1 q S1 => hD.nx σ1 H1 Γ1 O1 (k Γ1 O1 q) S1, hD.rt, hD.bk, hD.ct⟩
theorem kE (h : DL.WE C X e Γ O Q) : DL.WE C X e Γ O Q := h
theorem kT (h : WT C X e Γ O QT) : WT C X e Γ O QT := h
theorem kU (h : WU C X e Γ O QT) : WU C X e Γ O QT := h
theorem kA (h : WA C X es Γ O QA) : WA C X es Γ O QA := h
theorem kO (h : WO C X oe Γ O QO) : WO C X oe Γ O QO := h
theorem kW (h : OW C X g a b Γ O Q) : OW C X g a b Γ O Q := h
theorem kB (h : BF C v ds Γ O Q) : BF C v ds Γ O Q := h
theorem kCall (h : DL.WE C X (.Call (.Name x p) es kws pos) Γ O Q) : DL.WE C X (.Call (.Name x p) es kws pos) Γ O Q := h
end
theorem bnd_mul {x y A B : Int} (hx : 0 ≤ x) (hA : x ≤ A) (hy : 0 ≤ y) (hB : y ≤ B) : 0 ≤ x * y ∧ x * y ≤ A * B :=
  ⟨Int.mul_nonneg hx hy, Int.mul_le_mul hA hB hy (Int.le_trans hx hA)⟩
theorem pw3 {x i k1 k2 k3 : Int} (hx : 0 ≤ x) (hx2 : x < 2 ^ 31) (hi : 0 ≤ i) (hi2 : i ≤ 2 ^ 20) (h1 : 0 ≤ k1) (h1' : k1 ≤ 2 ^ 14) (h2 : 0 ≤ k2) (h2' : k2 ≤ 2 ^ 18) (h3 : 0 ≤ k3) (h3' : k3 ≤ 2 ^ 18) : (x * (2 * i + k1) + k2 * i * i + k3).natAbs < 2 ^ 64 := by
  obtain ⟨a1, a2⟩ := bnd_mul (A := 2 ^ 31) (B := 2 ^ 22) hx (by omega) (show 0 ≤ 2 * i + k1 by omega) (by omega)
  obtain ⟨b1, b2⟩ := bnd_mul (A := 2 ^ 18) (B := 2 ^ 20) h2 h2' hi hi2
  obtain ⟨c1, c2⟩ := bnd_mul (A := 2 ^ 38) (B := 2 ^ 20) b1 (by omega) hi hi2
  omega
theorem atI_nat {α : Type} {xs : List α} {i : Int} (h0 : 0 ≤ i) (h1 : i < xs.length) : ∃ d, atI xs i = some d ∧ d ∈ xs ∧ xs[i.toNat]? = some d := by
  unfold atI ixN
  rw [if_pos h0, if_pos h1]
  have hn : i.toNat < xs.length := by omega
  exact ⟨xs[i.toNat], by simp [hn], List.getElem_mem hn, by simp [hn]⟩
theorem atI_ints (ns : List Int) {i : Int} (h0 : 0 ≤ i) (h1 : i < ns.length) : ∃ c, atI (ns.map D.int) i = some (.int c) := by
  obtain ⟨d, h, m, _⟩ := atI_nat (xs := ns.map D.int) h0 (by simpa using h1)
  obtain ⟨c, _, rfl⟩ := List.mem_map.mp m
  exact ⟨c, h⟩
theorem sz {n : Nat} (h : n ≤ 1000) : n ≤ sizeLine := Nat.le_trans h (by decide)
/-! ### defs of the module -/
/-- x is a def of the module that keeps the promise T -/
def Ent (M : Md) (j : Nat) (x : Str) (T : TF) : Prop := ∃ f, M.mg x = some (.ref f) ∧ Df M j f T
def EntK (M : Md) (j : Nat) (x : Str) (ks : List Str) (T : TF) : Prop := ∃ f, M.mg x = some (.ref f) ∧ DfK M j f ks T
section
variable {C : CD} {X : Cx} {Γ : En} {O : Own} {Q : D → Own → Prop} {e : Expr} {es : List Expr} {pos p : Pos} {x : Str} {j : Nat} {T : TF}
theorem we_def (E : Ent C.M j x T) (hj : j + 1 ≤ C.k) (g : x ∈ C.Gs) (he : ∀ env, starEach (e :: es) env = (false, eval e env) :: starEach es env) (hpl : ∀ env, (backTo pos (starEach es env)).any (·.1) = false)
    (h : WA C X (e :: es) Γ O fun ds O1 => T ds O1 Q fun x O' => C.ED x Γ O') : DL.WE C X (.Call (.Name x p) (e :: es) [] pos) Γ O Q := by
  obtain ⟨f, m, F⟩ := E
  refine we_cl he hpl (we_glob g (Gv.ref m) ⟨f, rfl, F.kp, ?_⟩)
  exact .mk fun ok σ H S k hk => h ok σ H S k fun vs H' ds O' q S' l r => hk vs H' ds O' (cb_df F hj q) S' l r
theorem we_def0 (E : Ent C.M j x T) (hj : j + 1 ≤ C.k) (g : x ∈ C.Gs) (h : T [] O Q fun x O' => C.ED x Γ O') : DL.WE C X (.Call (.Name x p) [] [] pos) Γ O Q := by
  obtain ⟨f, m, F⟩ := E
  exact we_cl0 (we_glob g (Gv.ref m) ⟨f, rfl, F.kp, cb_df F hj h⟩)
theorem we_defS {p2 : Pos} (E : Ent C.M j x T) (hj : j + 1 ≤ C.k) (g : x ∈ C.Gs) (hst : ∀ env, starEach [.Starred e p2] env = [(true, eval e env)])
    (h : DL.WE C X e Γ O fun y O2 => ∃ ds, Sq O2 y ds ∧ T ds O2 Q fun x O' => C.ED x Γ O') : DL.WE C X (.Call (.Name x p) [.Starred e p2] [] pos) Γ O Q := by
  obtain ⟨f, m, F⟩ := E
  exact we_clS hst (we_glob g (Gv.ref m) ⟨f, rfl, F.kp, we_imp h fun y O2 ⟨ds, sq, q⟩ => ⟨ds, sq, cb_df F hj q⟩⟩)
end
theorem Ent.mk' {M : Md} {j : Nat} {x : Str} {f : Addr} {T : TF} (m : M.mg x = some (.ref f)) (F : Df M j f T) : Ent M j x T := ⟨f, m, F⟩
/-- all parameters are given -/
theorem FnG.df0 {M : Md} {j : Nat} {f : Addr} {fd : FuncData} {ps : List Str} {T : TF} (F : FnG M j f fd ps (spD M.K T)) (kp : PySem.W.keepIn M.K (.ref f) = true) (hb : Binds M.K fd ps []) : Df M j f T := by
  have := F.df (dds := []) kp hb Fix.nil
  simpa only [List.append_nil] using this
theorem cut_map {ns : List Int} {lo hi : Option Int} : ∃ ms : List Int, cutD (ns.map .int) lo hi = ms.map .int ∧ ms.length ≤ ns.length ∧ ms = (ns.drop (HT.sIx ns.length 0 lo)).take (HT.sIx ns.length ns.length hi - HT.sIx ns.length 0 lo) := by
  refine ⟨_, ?_, ?_, rfl⟩
  · unfold cutD
    rw [List.length_map, List.map_take, List.map_drop]
  · rw [List.length_take, List.length_drop]
    omega

/-! ### the pen -/
/-- the pen's list: the cells, the place, what is left -/
def Pen (b : Nat) (ds : List D) : Prop := ∃ (ns : List Int) (i l : Int), ds = [.lst (ns.map .int), .int i, .int l] ∧ 0 ≤ i ∧ i ≤ b ∧ 0 ≤ l ∧ ns.length ≤ 63
/-- a draw: some number below m -/
def TDraw : TF := fun ds O Q _ => ∃ p b m O', ds = [.ref p, .int m] ∧ OUp O p (.box (Pen b)) (.box (Pen (b + 1))) O' ∧ b < 2 ^ 20 ∧ 0 < m ∧ m.natAbs.log2 < 9000 ∧ ∀ r : Int, 0 ≤ r → r < m → Q (.int r) O'
/-- a pick: some item -/
def TPick : TF := fun ds O Q _ => ∃ p b x xs O', ds = [.ref p, x] ∧ SqLs O x xs ∧ SqLs O' x xs ∧ OUp O p (.box (Pen b)) (.box (Pen (b + 1))) O' ∧ b < 2 ^ 20 ∧ xs ≠ [] ∧ xs.length ≤ 1000 ∧ ∀ d ∈ xs, Q d O'
/-- lengths that a cycle takes -/
def Good (ns : List Int) : Prop := ns ≠ [] ∧ ns.length ≤ 12 ∧ (∀ n ∈ ns, 1 ≤ n) ∧ ns.sum ≤ 60
instance (ns : List Int) : Decidable (Good ns) := by unfold Good; infer_instance
theorem sum_le5 : ∀ ns : List Int, (∀ n ∈ ns, 1 ≤ n ∧ n ≤ 5) → ns.sum ≤ 5 * ns.length
  | [], _ => by simp
  | n :: ns, h => by
    have := sum_le5 ns fun m hm => h m (List.mem_cons_of_mem _ hm)
    have := h n List.mem_cons_self
    simp only [List.sum_cons, List.length_cons]
    push_cast
    omega
theorem good5 {ns : List Int} (h0 : 0 < ns.length) (h1 : ns.length ≤ 12) (h : ∀ n ∈ ns, 1 ≤ n ∧ n ≤ 5) : Good ns :=
  ⟨List.length_pos_iff.mp h0, h1, fun n hn => (h n hn).1, by have := sum_le5 ns h; omega⟩
/-- a cycle's lengths -/
def TLens : TF := fun ds O Q _ => ∃ p b O', ds = [.ref p] ∧ OUp O p (.box (Pen b)) (.box (Pen (b + 20))) O' ∧ b < 2 ^ 19 ∧ ∀ ns, Good ns → Q (.lst (ns.map .int)) O'
/-- a new pen -/
def TPen : TF := fun ds O Q _ => ∃ ns : List Int, ds = [.klst (ns.map .int)] ∧ ns.length ≤ 63 ∧ ∀ p, ¬ O.has p → Q (.ref p) ((p, .box (Pen 0)) :: O)
theorem pen_weak {b b' : Nat} (h : b ≤ b') : ∀ ds, Pen b ds → Pen b' ds := fun ds ⟨ns, i, l, e, h0, h1, h2, h3⟩ => ⟨ns, i, l, e, h0, by omega, h2, h3⟩
end DL
namespace DL
open PySem PySem.Spec PyProof.Rows L2

/-! ### enumerate of a tuple -/
set_option maxHeartbeats 1000000 in
theorem en_meets {src : Value} {ob : Obj} {St : Heap → Prop} (B : Begins src ob St) : Meets (Builtin.«enumerate.__new__» ⟨[.type "enumerate", src], []⟩) (fun _ R s => St s.heap ∧
    R (.ok (.ret (.ref (s.heap.push ob).objs.size))) { s with heap := (s.heap.push ob).push { cls := .type "enumerate", data := .fields #[.none, .bool false, .ref s.heap.objs.size, rawInt 0, .none, .none] } }) := .of_wp fun prog w A R s h => by
  obtain ⟨hp, gs, dr, tk, os⟩ := s
  obtain ⟨st, hR⟩ := h
  have sub := sub_enumerate
  have it : ∀ {A' : Around} {E : Value → Shared → Prop} {Q : Value → Shared → Prop}, Q (.ref hp.objs.size) ⟨hp.push ob, gs, dr, tk, os⟩ → wpAny (model prog w) A' (pyIter src) Q E ⟨hp, gs, dr, tk, os⟩ := fun q => B.iter prog w _ _ ⟨hp, gs, dr, tk, os⟩ _ st q
  wp_walk using it
  refine wpAny_stack_any fun _ => wpAny_pure ?_
  split
  · rename_i cl _ _ _ _ _
    cases (cl == Value.type "enumerate") <;> (wp_walk using it; exact ⟨_, rfl, hR⟩)
  · (wp_walk using it; exact ⟨_, rfl, hR⟩)
theorem en_call {prog : Program} {w : World} {A : Around} {E : Value → Shared → Prop} {s : Shared} {src : Value} {ob : Obj} {St : Heap → Prop} {Q : Value → Shared → Prop} (B : Begins src ob St) (st : St s.heap)
    (h : ∀ h', IsEnum h' (s.heap.objs.size + 1) s.heap.objs.size 0 .none → h'.get? s.heap.objs.size = some ob → (∀ b o, s.heap.get? b = some o → h'.get? b = some o) → Q (.ref (s.heap.objs.size + 1)) { s with heap := h' }) :
    wpAny (model prog w) A (call (.type "enumerate") [src]) Q E s := by
  have z : (s.heap.push ob).objs.size = s.heap.objs.size + 1 := Heap.size_push _ _
  have e0 : (s.heap.push ob).get? s.heap.objs.size = some ob := Heap.get?_push_size _ B.free
  have e1 := Heap.get?_push_size (s.heap.push ob) (o := { cls := .type "enumerate", data := .fields #[.none, .bool false, .ref s.heap.objs.size, rawInt 0, .none, .none] }) rfl
  rw [z] at e1
  refine callType_new F.called_enumerate (by decide) (F.typeCall_enumerate_1 _) (F.newCall_enumerate_1 _) (fun obj => F.args_object_init_2 obj _) F.entry_enumerate_new (en_meets B) ⟨st, ?_⟩
  show _ ∧ _
  rw [z]
  exact ⟨⟨_, e1, rfl⟩, h _ e1 (Heap.get?_push_of_some _ e0) fun b o q => Heap.get?_push_of_some _ (Heap.get?_push_of_some _ q)⟩

/-- the tuple at t, each item in a new pair -/
def ItE (K : PySem.W.Frag) (t : Addr) : It where
  go := fun i H => ∃ (xs : List V) (x : V), SqT K H t xs ∧ xs[i]? = some x
  yld := fun i H v H' => ∃ q x, v = .ref q ∧ H q = none ∧ H' = upd H q (.tup [.int (i : Nat), x]) ∧ ∀ xs, SqT K H t xs → xs[i]? = some x
  stop := fun i H => ∃ xs : List V, SqT K H t xs ∧ xs.length ≤ i
theorem turn_E {P : Program} {w : World} {K : PySem.W.Frag} {tgs : List Expr} {n : Nat} {pos : Pos} (t c r : Addr) :
    Turn P w K (.Tuple tgs n pos) (ItE K t) [c, r] c (fun i h => (∃ last, IsEnum h c r ((i : Nat) : Int) last) ∧ h.IsTupleIter r t i ∧ c ≠ r ∧ c ≠ t ∧ t ≠ r) where
  mem := List.mem_cons_self
  obj := fun i h ⟨⟨last, hc⟩, ⟨o, ho, hcl, hd⟩, _⟩ b hb => by
    rcases List.mem_cons.mp hb with z | hb
    · subst z
      exact ⟨_, hc, fun v q => nomatch q⟩
    · obtain rfl := List.mem_singleton.mp hb
      exact ⟨o, ho, fun v q => by rw [hd] at q; cases q⟩
  keep := fun i h h' ⟨⟨last, hc⟩, hr, ne⟩ k => ⟨⟨last, k c List.mem_cons_self _ hc⟩, hr.at fun o q => k r (List.mem_cons_of_mem _ List.mem_cons_self) o q, ne⟩
  item := fun X hP hw hK calm i pins s σ H E I fp ⟨⟨last, hc⟩, hr, ne, nct, ntr⟩ ⟨xs, x, hx, hix⟩ => by
    subst hP; subst hw; subst hK
    obtain ⟨us, rel, isT, lz⟩ := I.tuple hx
    have lt : i < us.toArray.size := by
      have := (List.getElem?_eq_some_iff.mp hix).1
      rw [List.size_toArray, ← rel.length]
      exact this
    have lc : c < s.heap.objs.size := Heap.lt_size hc
    have lr : r < s.heap.objs.size := by obtain ⟨_, q, _⟩ := hr; exact Heap.lt_size q
    refine wpAny_pyNext_enum_itemD (Draws.tuple (show X.A.in1.handled = none from I.ok.hd calm) r t ntr us.toArray) hc ⟨hr, isT⟩ lt ne (by simp [ne, nct]) fun u h1 tk hu ho st hT sz kp => ?_
    refine ⟨_, rfl, wpAny_letOwnedTupleGo_enum (s := { s with heap := h1, toks := tk + 1 }) ho fun h2 hc2 sb => ?_⟩
    obtain ⟨u', hu', ru⟩ := rel.get hix
    have eu : u' = u := by
      have : us.toArray[i]? = some u := hu
      rw [List.getElem?_toArray, hu'] at this
      exact Option.some.inj this
    subst eu
    have gT : h2.get? s.heap.objs.size = some { cls := .type "tuple", data := .seq #[.int i tk, u'] } := (sb.2 _ (Nat.ne_of_gt lc)).trans hT
    have ok : ObjOk X.prog X.w (upd H s.heap.objs.size (.tup [.int (i : Nat), x])) h2 s.heap.objs.size (.tup [.int (i : Nat), x]) :=
      ⟨show 2 ≤ sizeLine by decide, [.int i tk, u'], .cons ⟨tk, rfl⟩ (.cons ru .nil), _, gT, rfl, _, rfl⟩
    have J : Inv X pins σ (upd H s.heap.objs.size (.tup [.int (i : Nat), x])) { s with heap := h2, toks := tk + 1 } := by
      refine I.turnedNew (ch := [c, r]) (fun b o hb q => ?_) fp (Nat.le_refl _) ok
      have n1 : b ≠ c := fun z => hb (by simp [z])
      have n2 : b ≠ r := fun z => hb (by simp [z])
      exact (sb.2 b n1).trans (kp b o n1 n2 q)
    have nn : H s.heap.objs.size = none := I.hok.fresh (Nat.le_refl _)
    refine ⟨.ref s.heap.objs.size, _, J, rfl, ⟨_, x, rfl, nn, rfl, fun ys hy => by rw [I.tuple_inj hy hx]; exact hix⟩, ⟨⟨u', ?_⟩, st.1.at fun o q => (sb.2 r (Ne.symm ne)).trans q, ne, nct, ntr⟩, fun b hb => ?_⟩
    · rw [show ((i + 1 : Nat) : Int) = (i : Int) + 1 by omega]
      exact hc2
    · have lb : b < s.heap.objs.size := by
        rcases List.mem_cons.mp hb with z | hb
        · rw [z]; exact lc
        · rw [List.mem_singleton.mp hb]; exact lr
      rw [upd_ne (Nat.ne_of_lt lb)]
      exact (fp b hb).1
  done := fun X hP hw hK calm i pins s σ H E I fp ⟨⟨last, hc⟩, hr, ne, nct, ntr⟩ ⟨xs, hx, hle⟩ => by
    subst hP; subst hw; subst hK
    obtain ⟨us, rel, isT, lz⟩ := I.tuple hx
    have no : us.toArray[i]? = none := by
      rw [List.getElem?_toArray]
      exact List.getElem?_eq_none (by rw [← rel.length]; exact hle)
    have hd : X.A.in1.handled = none := I.ok.hd calm
    have D : Draws X.prog X.w X.A.in1 r [r, t] i (fun _ _ => True) (fun j h => j = i ∧ h.IsTupleIter r t i ∧ h.IsTuple t us.toArray) :=
      { live := fun _ _ st => let ⟨o, q, _⟩ := st.2.1; ⟨o, q⟩
        frame := fun _ _ _ st k => ⟨st.1, st.2.1.at fun o q => k r List.mem_cons_self o q, st.2.2.at fun o q => k t (by simp) o q⟩
        item := fun j _ _ _ hj st => absurd st.1 (Nat.ne_of_lt hj)
        done := fun _ _ _ st q => wpAny_nextOf_tuple_end hd st.2.1 st.2.2 no q }
    obtain ⟨f0, f1, f2, f3, f4, f5⟩ := fp r (List.mem_cons_of_mem _ List.mem_cons_self)
    exact wpAny_pyNext_enum_endD D hc ⟨rfl, hr, isT⟩ fun h1 eb => ⟨rfl, I.turned (t' := s.toks) (fun b o hb q => eb b o hb q) f0 f1 f3 f4 f5⟩
  self := fun A i s Q E ⟨⟨_, hc⟩, _⟩ q => wpAny_pyIter_enum hc q
section
variable {X : Cx} {a : Expr} {p pos tpos : Pos} {tgs : List Expr} {n : Nat} {ta : TA}
/-- for .. in enumerate(t), t a tuple -/
def tEnT (K : PySem.W.Frag) (ta : TA) : TI := fun σ H R => ta σ H fun vs H1 => ∃ t xs, vs = [.ref t] ∧ SqT K H1 t xs ∧ R (ItE K t) H1
theorem pi_enT (g : Gl X "enumerate") (m : X.mg "enumerate" = none) (ha : PA X [a] ta) (hs : starEach [a] X.env = [(false, eval a X.env)]) : PI X (.Tuple tgs n tpos) (.Call (.Name "enumerate" p) [a] [] pos) (tEnT X.K ta) := by
  refine ⟨fun pins s σ H R I h => Call_ (ld_blt I g m boot_enumerate (PyProof.Rows.callWith_type1 (thn (ha.run pos pins s σ H _ I h) fun us s1 ⟨vs, H1, I1, r1, q1⟩ => ?_) hs rfl))⟩
  obtain ⟨t, xs, rfl, hx, q⟩ := q1
  obtain ⟨u, rfl, ru⟩ : ∃ u, us = [u] ∧ RelV (.ref t) u := by
    cases r1 with
    | cons r rr => cases rr; exact ⟨_, rfl, r⟩
  obtain rfl : u = Value.ref t := ru
  obtain ⟨its, rel, isT, lz⟩ := I1.tuple hx
  have lt : t < s1.heap.objs.size := by obtain ⟨_, q, _⟩ := isT; exact Heap.lt_size q
  refine en_call (begins_tuple t its.toArray) isT fun h1 he hi kp => wpAny_pyIter_enum he ?_
  have J : Inv X pins σ H1 { s1 with heap := h1 } := I1.kept (t' := s1.toks) kp
  refine ⟨s1.heap.objs.size + 1, [s1.heap.objs.size + 1, s1.heap.objs.size], _, ItE X.K t, H1, rfl, J, turn_E t _ _, ⟨⟨.none, he⟩, ⟨_, hi, rfl, rfl⟩, Nat.succ_ne_self _, Nat.ne_of_gt (Nat.lt_succ_of_lt lt), Nat.ne_of_lt lt⟩, fun b hb => ?_, q⟩
  have lb : s1.heap.objs.size ≤ b := by
    rcases List.mem_cons.mp hb with z | hb
    · rw [z]; exact Nat.le_succ _
    · rw [List.mem_singleton.mp hb]; exact Nat.le_refl _
  exact I1.fpOk lb (I1.hok.fresh lb)
end
def enD (ds : List D) : List D := (List.range ds.length).map fun i => .tup [.int (i : Nat), ds.getD i .non]
theorem enD_len {ds : List D} : (enD ds).length = ds.length := by simp [enD]
theorem enD_get {ds : List D} {i : Nat} {d : D} (h : (enD ds)[i]? = some d) : ∃ e, ds[i]? = some e ∧ d = .tup [.int (i : Nat), e] ∧ i < ds.length := by
  obtain ⟨hi, e⟩ := List.getElem?_eq_some_iff.mp h
  rw [enD_len] at hi
  refine ⟨ds[i], by simp [hi], ?_, hi⟩
  simp only [enD, List.getElem_map, List.getElem_range] at e
  rw [← e, List.getD_eq_getElem?_getD]
  simp [hi]
theorem enD_at {ds : List D} {i : Nat} {e : D} (h : ds[i]? = some e) : (enD ds)[i]? = some (.tup [.int (i : Nat), e]) := by
  have hi := (List.getElem?_eq_some_iff.mp h).1
  have z : (enD ds)[i]? = some (.tup [.int (i : Nat), ds.getD i .non]) := by
    unfold enD
    rw [List.getElem?_map, List.getElem?_range hi]
    rfl
  rw [z, List.getD_eq_getElem?_getD, h]
  rfl
theorem genJ_enT {K : PySem.W.Frag} {O1 : Own} {H1 : Hp} {t : Addr} {ds : List D} {Src : Own → Prop} (h : ∀ O H, Le O1 H1 O H → ∃ xs, SqT K H t xs ∧ Reps K O.has H ds xs) : GenJ K (ItE K t) O1 H1 Src (enD ds) where
  go := fun O H i w l s hi => by
    obtain ⟨xs, hq, hr⟩ := h O H l
    rw [enD_len, ← reps_len hr] at hi
    exact ⟨xs, xs[i], hq, List.getElem?_eq_getElem hi⟩
  yld := fun O H i v H' w l s hi ⟨q, x, ev, hq, eH, hx⟩ => by
    subst ev; subst eH
    obtain ⟨xs, sq, hr⟩ := h O H l
    obtain ⟨e, he, re⟩ := reps_get' hr (hx xs sq)
    refine ⟨_, enD_at he, ?_, ownOk_new w hq, Le.new_obj O hq⟩
    simp only [Rep]
    exact ⟨q, _, rfl, w.nothas hq, upd_same, reps_cons.mpr ⟨_, _, rfl, rep_int.mpr rfl, reps_cons.mpr ⟨_, _, rfl, Rep.le (Le.new_obj O hq) re, reps_nil.mpr rfl⟩⟩⟩
  stop := fun O H i w l s hi => by
    obtain ⟨xs, sq, hr⟩ := h O H l
    rw [enD_len, ← reps_len hr] at hi
    exact ⟨xs, sq, hi⟩
section
variable {C : CD} {X : Cx} {Γ : En} {O : Own} {a : Expr} {p pos tpos : Pos} {tgs : List Expr} {n : Nat} {R : List D → (Own → Prop) → Own → Prop}
theorem wi_enT (hm : C.M.mg "enumerate" = none) (g : ("enumerate" : Str) ∈ C.Gs) (hs : ∀ env, starEach [a] env = [(false, eval a env)])
    (h : WA C X [a] Γ O fun ds O1 => ∃ d xs, ds = [d] ∧ SqTs O1 d xs ∧ R (enD xs) (fun _ => True) O1) : WI C X (.Tuple tgs n tpos) (.Call (.Name "enumerate" p) [a] [] pos) Γ O R := .mk fun ok σ H S k hk =>
  iw_of (pi_enT (ok.gl _ g).1 (by rw [ok.mg]; exact hm) pa_aw (hs _)) (h ok σ H S _ fun vs H1 ds O1 q1 S1 l1 r1 => by
    obtain ⟨d, xs, rfl, sq, q⟩ := q1
    rw [reps_cons] at r1
    obtain ⟨v, r, rfl, rv, rr⟩ := r1
    rw [reps_nil] at rr
    subst rr
    obtain ⟨t, vs, rfl, hx, rx⟩ := sq.ok rv
    refine ⟨t, vs, rfl, by rw [ok.K]; exact hx, hk _ H1 _ _ O1 q S1 l1 ?_⟩
    rw [ok.K]
    refine genJ_enT fun O2 H2 l2 => ?_
    have sq2 : SqTs O2 d xs := by
      cases sq
      · exact .tup
      · exact .ktup
    obtain ⟨t', vs', e, hx', rx'⟩ := sq2.ok (Rep.le l2 rv)
    cases e
    exact ⟨vs', hx', rx'⟩)
end
end DL
namespace DL
open PySem PySem.Spec PyProof.Rows L2

/-! ### def f(a, .., *v) -/
/-- n arguments, what is left over a tuple -/
def TStar (n : Nat) (T : TF) : TF := fun ds O QD ED => ∃ as bs, ds = as ++ bs ∧ as.length = n ∧ bs.length ≤ sizeLine ∧ T (as ++ [.tup bs]) O QD ED
theorem reps_split {K : PySem.W.Frag} {N : Addr → Prop} {H : Hp} : ∀ {as bs : List D} {vs : List V}, Reps K N H (as ++ bs) vs → ∃ v1 v2, vs = v1 ++ v2 ∧ Reps K N H as v1 ∧ Reps K N H bs v2
  | [], bs, vs, h => ⟨[], vs, rfl, reps_nil.mpr rfl, h⟩
  | a :: as, bs, vs, h => by
    rw [List.cons_append, reps_cons] at h
    obtain ⟨x, r, rfl, h1, h2⟩ := h
    obtain ⟨v1, v2, rfl, g1, g2⟩ := reps_split h2
    exact ⟨x :: v1, v2, rfl, reps_cons.mpr ⟨x, v1, rfl, h1, g1⟩, g2⟩
theorem fn_star {M : Md} {x qual pv : Str} {st : Stmt} {f : Addr} {fd : FuncData} {N Vs ps Gs : List Str} {k : Nat} {T : TF} (F : Fun M.K x qual st f fd) (S : Sco N Vs (ps ++ [pv]) Gs (defScope st))
    (hb : ∀ us rest : List Value, us.length = ps.length → bindArgs fd ⟨us ++ rest, []⟩ = (newTuple rest >>= fun t => pure (ps.zip us ++ [(pv, t)])))
    (len : ∀ ds O Q E, T ds O Q E → ds.length = ps.length + 1)
    (body : ∀ ds O QD ED, T ds O QD ED → ∀ H X, WSs (cdOf M k (defScope st) N Vs Gs O H ED) X (defBody st) (start_ N ds) O { nx := fun _ O' => QD .non O', rt := QD }) : Runs M (k + 1) (.ref f) [] (TStar ps.length T) := by
  obtain ⟨oc, od, kV, doc, pm, an, cdv, ct, osl, rfl, lk, hcd⟩ := F.ex
  intro A outer s H us ws vs Q E hr hg e0 rv hws hsp
  obtain rfl : ws = [] := List.length_eq_zero_iff.mp hws
  rw [List.append_nil] at rv
  obtain ⟨ds, O, QD, ED, w, r, ⟨as, bs, rfl, hla, hlb, t⟩, hQ, hE⟩ := hsp
  obtain ⟨v1, v2, rfl, ra, rb⟩ := reps_split r
  obtain ⟨u1, u2, rfl, w1, w2⟩ := StX.vals_split rv
  have l1 : v1.length = ps.length := (reps_len ra).trans hla
  have z2 : v2.length ≤ sizeLine := by rw [reps_len rb]; exact hlb
  have l1' : u1.length = ps.length := by rw [← w1.length]; exact l1
  have hn : H s.heap.objs.size = Option.none := e0.hok.fresh (Nat.le_refl _)
  refine StX.run_bnd (k := k) lk hcd S.fs hr e0 (G := fun xs H2 => ∃ p, H p = Option.none ∧ xs = v1 ++ [V.ref p] ∧ H2 = upd H p (.tup v2)) ?_ ?_
  · intro A' Ex Q' h
    show wpAny _ _ (bindArgs _ ⟨u1 ++ u2, []⟩) _ _ _
    rw [hb u1 u2 l1']
    refine wpAny_bind (wpAny_newTuple (wpAny_pure ?_) (by rw [← w2.length]; exact z2))
    have ob : ObjOk M.P M.w (upd H s.heap.objs.size (.tup v2)) (s.heap.push ({ cls := .type "tuple", data := .seq u2.toArray } : Obj)) s.heap.objs.size (.tup v2) := ⟨z2, u2, w2, _, Heap.get?_push_size _ rfl, rfl, _, rfl⟩
    have un : Un (frs outer) [] H (upd H s.heap.objs.size (.tup v2)) s.heap (s.heap.push ({ cls := .type "tuple", data := .seq u2.toArray } : Obj)) := StX.un_laid hn
    have g := h _ _ (v1 ++ [V.ref s.heap.objs.size]) (u1 ++ [Value.ref s.heap.objs.size]) (StX.env0_laid e0 ob) un rfl (fun e s' => StX.cxUp outer s H _ _ E e s' un (fun b o q => Heap.get?_push_of_some _ q) rfl) (w1.append (.cons rfl .nil)) (by simp [l1]) ⟨_, hn, rfl, rfl⟩
    rw [List.zip_append l1'.symm] at g
    exact g
  · rintro s2 H2 xs ⟨p, hp, rfl, rfl⟩ hr'
    have l := Le.new_obj (o := .tup v2) O hp
    have w' := ownOk_new (o := .tup v2) w hp
    have rs : Reps M.K O.has (upd H p (.tup v2)) (as ++ [.tup bs]) (v1 ++ [V.ref p]) := reps_app (Reps.le l ra) (reps_cons.mpr ⟨_, [], rfl, by
      simp only [Rep]
      exact ⟨p, v2, rfl, w.nothas hp, upd_same, Reps.le l rb⟩, reps_nil.mpr rfl⟩)
    have hl2 : (as ++ [D.tup bs]).length ≤ N.length := by
      rw [len _ _ _ _ t]
      have := congrArg List.length S.fs.pre
      rw [List.length_take, List.length_append] at this
      simp only [List.length_cons, List.length_nil] at this
      omega
    obtain ⟨q1, q2⟩ := start_sl hl2 rs
    refine ⟨_, pss_sws, body _ O QD ED t (upd H p (.tup v2)) _ (ok_of (qual := qual) (f := f) (cd := cdv) (outer := outer) (s := s2) S hr' hg fun cls dx H' y O' q w3 l3 r3 => hE cls dx H' y O' q w3 (l.trans l3) r3) _ _ ⟨q2, q1, w', Le.refl _ _⟩ _ ⟨fun σ' H' Γ' O' q S' => hQ .non H' .non O' q S'.own (l.trans S'.le) (rep_non.mpr rfl), fun v H' d O' q w3 l3 r3 => hQ v H' d O' q w3 (l.trans l3) r3, fun _ _ _ _ q _ => q.elim, fun _ _ _ _ q _ => q.elim⟩⟩
end DL
namespace DL
open PySem PySem.Spec PyProof.Rows L2

/-! ### [elt for tg in iter for tg1 in iter1] -/
def Lc2Ask (C : CD) (scope : Scope) (xs xs1 Vs Gs : List Str) (tg tg1 iter1 elt : Expr) (Γ : En) (Q : D → Own → Prop) (ds : List D) (Src : Own → Prop) (O1 : Own) : Prop :=
  ∃ (Γw : En) (I : Nat → List D → Own → Prop), Wp Γ xs Γw ∧ I 0 [] O1 ∧ (∀ i acc O' p, I i acc O' → Src ((p, .lst acc) :: O')) ∧
    (∀ H1 i d acc O' p, ds[i]? = some d → I i acc O' → ¬ O'.has p → ∀ X, WGx (C.blk scope Vs xs Gs O1 H1) X xs tg d Γw ((p, .lst acc) :: O') fun Γ2 O2 => ∀ X, WI (C.blk scope Vs xs Gs O1 H1) X tg1 iter1 Γ2 O2 fun es Src1 O3 =>
      ∃ (Γv : En) (I1 : Nat → List D → Own → Prop), Wp Γ2 xs1 Γv ∧ (∃ O4, O3 = (p, .lst acc) :: O4 ∧ I1 0 acc O4) ∧ (∀ j ac O5, I1 j ac O5 → Src1 ((p, .lst ac) :: O5)) ∧
        (∀ j e ac O5, es[j]? = some e → I1 j ac O5 → ¬ O5.has p → ac.length < sizeLine ∧ ∀ X, WGx (C.blk scope Vs xs Gs O1 H1) X xs1 tg1 e Γv ((p, .lst ac) :: O5) fun Γ3 O6 => ∀ X, DL.WE (C.blk scope Vs xs Gs O1 H1) X elt Γ3 O6 fun y O7 => ∃ O8, O7 = (p, .lst ac) :: O8 ∧ I1 (j + 1) (ac ++ [y]) O8) ∧
        (∀ ac O5, I1 es.length ac O5 → I (i + 1) ac O5)) ∧
    (∀ acc O' p, I ds.length acc O' → ¬ O'.has p → Q (.ref p) ((p, .lst acc) :: O'))
theorem wipe2 {σ : St} {vs : List Nat} : wipe (wipe σ vs) vs = wipe σ vs := by
  apply List.ext_getElem?
  intro j
  rw [wipe_get, wipe_get, wipe_length]
  split <;> rfl
theorem own_not {K : PySem.W.Frag} {O : Own} {H : Hp} {p : Addr} {od : OD} (w : OwnOk K ((p, od) :: O) H) : ¬ O.has p := by
  have := w.nd
  simp only [List.map_cons, List.nodup_cons] at this
  exact this.1
theorem yes_if {σ : St} {H : Hp} {A B : Hp → Prop} (h : A H) : tYes σ H (fun b H3 => if b = true then A H3 else B H3) := by
  unfold tYes
  simp only [if_true]
  exact h
section
variable {C : CD} {X : Cx} {Γ : En} {O : Own} {Q : D → Own → Prop} {pos : Pos} {tg iter tg1 iter1 elt : Expr} {xs : List Str} {σ : St} {H : Hp}
theorem we_lc2 {scope : Scope} (Vs Gs xs xs1 : List Str) (hB : blkB C.N C.sc scope xs Vs Gs = true) (hx : ∀ x ∈ xs1, x ∈ xs) (hs : ∀ env x, foldedSetIterable iter env x = pure x) (hs1 : ∀ env x, foldedSetIterable iter1 env x = pure x)
    (h : WI C X tg iter Γ O fun ds Src O1 => Lc2Ask C scope xs xs1 Vs Gs tg tg1 iter1 elt Γ Q ds Src O1) : DL.WE C X (.ListComp elt [⟨tg, iter, [], 0⟩, ⟨tg1, iter1, [], 0⟩] scope pos) Γ O Q := .mk fun ok σ H S k hk => by
  refine ew_of (pe_lc2 (vs1 := (ownIx C.N xs1).map (·.2)) ok.calm (by rw [ok.N]; exact ok.nd) pi_iw (by rw [ok.N, ok.sc]; exact blkB_ok hB) ?_
    (fun s Hs Cc cl fp => ⟨fun pins s' σ' H' v u Q I r (hh : ∀ s Hs Cc cl fp, GW (X.blk s Hs scope (compEnvC scope cl Cc X.env) fp) tg v σ' H' Q) => hh s Hs Cc cl fp pins s' u I r⟩) (fun s Hs Cc cl fp => pts_nil)
    (fun s Hs Cc cl fp => ⟨fun pins s' σ' H' R I (hh : ∀ s Hs Cc cl fp, IW (X.blk s Hs scope (compEnvC scope cl Cc X.env) fp) tg1 iter1 σ' H' R) => hh s Hs Cc cl fp pins s' I⟩)
    (fun s Hs Cc cl fp => ⟨fun pins s' σ' H' v u Q I r (hh : ∀ s Hs Cc cl fp, GW (X.blk s Hs scope (compEnvC scope cl Cc X.env) fp) tg1 v σ' H' Q) => hh s Hs Cc cl fp pins s' u I r⟩) (fun s Hs Cc cl fp => pts_nil)
    (fun s Hs Cc cl fp => ⟨fun pins s' σ' H' Q I (hh : ∀ s Hs Cc cl fp, EW (X.blk s Hs scope (compEnvC scope cl Cc X.env) fp) elt σ' H' Q) => hh s Hs Cc cl fp pins s' I⟩) (hs _) (fun _ _ => hs1 _ _)) ?_
  · intro i hi
    simp only [ownIx, List.map_map, List.mem_map] at hi ⊢
    obtain ⟨x, hxx, rfl⟩ := hi
    exact ⟨x, hx x hxx, rfl⟩
  refine h ok σ H S _ fun J H1 ds Src O1 q1 S1 l1 gj => ?_
  obtain ⟨Γw, I, hw, h0, hsrc, hst, hend⟩ := q1
  intro p hp
  obtain ⟨w0, l0⟩ := own_new (K := C.M.K) (od := .lst []) (o := .lst []) S1.own hp ⟨[], upd_same, reps_nil.mpr rfl⟩
  refine ⟨fun i m H' => m = ds.length - i ∧ i ≤ ds.length ∧ ∃ acc O', I i acc O' ∧ OwnOk C.M.K ((p, .lst acc) :: O') H' ∧ Le O1 H1 ((p, .lst acc) :: O') H', ⟨ds.length, by simp, Nat.zero_le _, [], O1, h0, w0, l0⟩, ?_⟩
  rintro i m H' ⟨rfl, hi, acc, O', hI, w', l'⟩
  have np := own_not w'
  by_cases hlt : i < ds.length
  · refine .inr ⟨gj.go _ H' i w' l' (hsrc i acc O' p hI) hlt, fun H2 => ∃ acc O2, I (i + 1) acc O2 ∧ OwnOk C.M.K ((p, .lst acc) :: O2) H2 ∧ Le O1 H1 ((p, .lst acc) :: O2) H2, fun H2 ⟨acc, O2, a, b, c⟩ => ⟨ds.length - (i + 1), by omega, rfl, hlt, acc, O2, a, b, c⟩, fun x H3 y => ?_⟩
    obtain ⟨d, hd, rd, w3, l3⟩ := gj.yld _ H' i x H3 w' l' (hsrc i acc O' p hI) hlt y
    have l13 := l'.trans l3
    obtain ⟨sw, en⟩ := hw.ok S1.nm ok.nd (RepSl.le l13 S1.sl)
    have Sb : Sat (C.blk scope Vs xs Gs O1 H1) Γw ((p, .lst acc) :: O') (wipe σ ((ownIx C.N xs).map (·.2))) H3 := ⟨en, sw, w3, l13⟩
    have st := hst H1 i d acc O' p hd hI np
    intro s Hs Cc cl fp
    refine st _ (ok_blk ok hB s Hs Cc cl fp O1 H1) _ H3 Sb x rd _ fun σ4 H4 Γ4 O4 q4 S4 l4 b4 => ⟨(b4.wipe ok.nd).trans wipe2, ?_⟩
    refine yes_if ?_
    intro s Hs Cc cl fp
    refine q4 (X.blk s Hs scope (compEnvC scope cl Cc X.env) fp) (ok_blk ok hB s Hs Cc cl fp O1 H1) σ4 H4 S4 _ fun J1 H5 es Src1 O5 q5 S5 l5 gj1 => ?_
    obtain ⟨Γv, I1, hv, ⟨O6, rfl, hI1⟩, hsrc1, hst1, hend1⟩ := q5
    refine ⟨fun j m H' => m = es.length - j ∧ j ≤ es.length ∧ ∃ ac O', I1 j ac O' ∧ OwnOk C.M.K ((p, .lst ac) :: O') H' ∧ Le O1 H1 ((p, .lst ac) :: O') H' ∧ Le ((p, .lst acc) :: O6) H5 ((p, .lst ac) :: O') H', ⟨es.length, by simp, Nat.zero_le _, acc, O6, hI1, S5.own, S5.le, Le.refl _ _⟩, ?_⟩
    rintro j m2 H6 ⟨rfl, hj, ac, O7, hIj, w7, l7, l57⟩
    by_cases hjt : j < es.length
    · refine .inr ⟨gj1.go _ H6 j w7 l57 (hsrc1 j ac O7 hIj) hjt, fun H2 => ∃ ac O', I1 (j + 1) ac O' ∧ OwnOk C.M.K ((p, .lst ac) :: O') H2 ∧ Le O1 H1 ((p, .lst ac) :: O') H2 ∧ Le ((p, .lst acc) :: O6) H5 ((p, .lst ac) :: O') H2, fun H2 ⟨ac, O', a, b, c, e⟩ => ⟨es.length - (j + 1), by omega, rfl, hjt, ac, O', a, b, c, e⟩, fun x H8 y => ?_⟩
      obtain ⟨e, he, re, w8, l8⟩ := gj1.yld _ H6 j x H8 w7 l57 (hsrc1 j ac O7 hIj) hjt y
      obtain ⟨sv, ev⟩ := hv.ok S5.nm ok.nd (RepSl.le (l57.trans l8) S5.sl)
      have Sv : Sat (C.blk scope Vs xs Gs O1 H1) Γv ((p, .lst ac) :: O7) (wipe σ4 ((ownIx C.N xs1).map (·.2))) H8 := ⟨ev, sv, w8, l7.trans l8⟩
      obtain ⟨hz, st1⟩ := hst1 j e ac O7 he hIj (own_not w7)
      intro s Hs Cc cl fp
      refine st1 _ (ok_blk ok hB s Hs Cc cl fp O1 H1) _ H8 Sv x re _ fun σ9 H9 Γ9 O9 q9 S9 l9 b9 => ⟨(b9.wipe ok.nd).trans wipe2, ?_⟩
      refine yes_if ?_
      intro s Hs Cc cl fp
      refine q9 _ (ok_blk ok hB s Hs Cc cl fp O1 H1) σ9 H9 S9 _ fun z H10 e' O10 q10 S10 l10 r10 => ?_
      obtain ⟨O11, rfl, q11⟩ := q10
      obtain ⟨vs, e10, rac⟩ := S10.own.at_ p (.lst ac) List.mem_cons_self
      have lac := reps_len rac
      have u : OUp ((p, .lst ac) :: O11) p (.lst ac) (.lst (ac ++ [e'])) ((p, .lst (ac ++ [e'])) :: O11) := .here
      have lu := u.le (H := H10) (o := .lst (vs ++ [z]))
      refine ⟨vs, e10, by omega, ac ++ [e'], O11, q11, u.own S10.own ⟨vs ++ [z], upd_same, Reps.le lu (reps_app rac (reps_cons.mpr ⟨z, [], rfl, r10, reps_nil.mpr rfl⟩))⟩, S10.le.trans lu, ?_⟩
      exact (((l57.trans l8).trans l9).trans l10).trans lu
    · have e : j = es.length := by omega
      subst e
      exact .inl ⟨gj1.stop _ H6 _ w7 l57 (hsrc1 _ ac O7 hIj) (Nat.le_refl _), ac, O7, hend1 ac O7 hIj, w7, l7⟩
  · have e : i = ds.length := by omega
    subst e
    refine .inl ⟨gj.stop _ H' _ w' l' (hsrc _ acc O' p hI) (Nat.le_refl _), ?_⟩
    exact hk _ H' _ _ (hend acc O' p hI np) (S1.step l' w') (l1.trans l') (rep_ref.mpr rfl)
end
end DL
namespace DL
open PySem PySem.Spec PyProof.Rows L2

/-! ### the names of types -/
section
variable {C : CD} {X : Cx} {Γ : En} {O : Own} {Q : D → Own → Prop} {pos : Pos} {x : Str}
theorem kNm (h : DL.WE C X (.Name x pos) Γ O Q) : DL.WE C X (.Name x pos) Γ O Q := h
theorem wn_int (B : Bi C.M.mg) (g : ("int" : Str) ∈ C.Gs) (q : Q (.ty "int") O) : DL.WE C X (.Name "int" pos) Γ O Q := we_glob g (Gv.ty B.int_ bt_int (by decide +kernel)) q
theorem wn_bool (B : Bi C.M.mg) (g : ("bool" : Str) ∈ C.Gs) (q : Q (.ty "bool") O) : DL.WE C X (.Name "bool" pos) Γ O Q := we_glob g (Gv.ty B.bool_ bt_bool (by decide +kernel)) q
theorem wn_list (B : Bi C.M.mg) (g : ("list" : Str) ∈ C.Gs) (q : Q (.ty "list") O) : DL.WE C X (.Name "list" pos) Γ O Q := we_glob g (Gv.ty B.list_ bt_list (by decide +kernel)) q
theorem wn_tuple (B : Bi C.M.mg) (g : ("tuple" : Str) ∈ C.Gs) (q : Q (.ty "tuple") O) : DL.WE C X (.Name "tuple" pos) Γ O Q := we_glob g (Gv.ty B.tuple_ bt_tuple (by decide +kernel)) q
theorem wn_str (B : Bi C.M.mg) (g : ("str" : Str) ∈ C.Gs) (q : Q (.ty "str") O) : DL.WE C X (.Name "str" pos) Γ O Q := we_glob g (Gv.ty B.str_ bt_str (by decide +kernel)) q
theorem wn_dict (B : Bi C.M.mg) (g : ("dict" : Str) ∈ C.Gs) (q : Q (.ty "dict") O) : DL.WE C X (.Name "dict" pos) Γ O Q := we_glob g (Gv.ty B.dict_ bt_dict (by decide +kernel)) q
/-- a number of the module -/
def GI (mg : Str → Option Value) (x : Str) (i : Int) : Prop := ∃ t, mg x = some (.int i t)
theorem wn_gi {i : Int} (h : GI C.M.mg x i) (g : x ∈ C.Gs) (q : Q (.int i) O) : DL.WE C X (.Name x pos) Γ O Q := by
  obtain ⟨t, e⟩ := h
  exact we_glob g (Gv.int e) q
end
/-! ### methods, properties, classmethods -/
def EntM (M : Md) (j : Nat) (Cl : Addr) (m : Str) (T : TF) : Prop := ∃ f, Meth M.K Cl m f ∧ Df M j f T
def EntP (M : Md) (j : Nat) (Cl : Addr) (m : Str) (T : TF) : Prop := ∃ pr g, PropOf M.K Cl m pr g ∧ Df M j g T
def EntC (M : Md) (j : Nat) (Cl : Addr) (m : Str) (T : TF) : Prop := ∃ mc pr g, ClX.CRead M.K Cl mc ∧ ClX.CMet M.K Cl mc m pr g ∧ Df M j g T
/-- C(..) -/
def EntI (M : Md) (j : Nat) (Cl : Addr) (T : TF) : Prop := ∃ f, Mk M.K Cl f ∧ Runs M j (.ref f) [] T
theorem lk_none {fs : List (Str × D)} {ks : List Str} {m : Str} (h : fs.map (·.1) = ks) (hm : ks.contains m = false) : fs.lookup m = none := by
  subst h
  induction fs with
  | nil => rfl
  | cons p fs ih =>
    obtain ⟨g, d⟩ := p
    simp only [List.map_cons, List.contains_cons, Bool.or_eq_false_iff] at hm
    rw [List.lookup_cons, hm.1]
    exact ih hm.2
section
variable {C : CD} {X : Cx} {Γ : En} {O : Own} {Q : D → Own → Prop} {e o : Expr} {es : List Expr} {pos p : Pos} {m : Str} {j : Nat} {T : TF} {Cl : Addr} {pl : Env → Sem Bool}
theorem we_mth (E : EntM C.M j Cl m T) (hc : Cls C.M.K Cl) (hj : j + 1 ≤ C.k) (hb : MethNode o m p pos (e :: es) [] pl) (he : ∀ env, starEach (e :: es) env = (false, eval e env) :: starEach es env) (hpl : ∀ env, (backTo pos (starEach es env)).any (·.1) = false)
    (h : DL.WE C X o Γ O fun d O1 => ∃ fs, Ins O1 d Cl fs ∧ fs.lookup m = none ∧ WA C X (e :: es) Γ O1 fun ds O2 => T (d :: ds) O2 Q fun x O' => C.ED x Γ O') : DL.WE C X (.Call (.Attribute o m p) (e :: es) [] pos) Γ O Q := by
  obtain ⟨f, mt, F⟩ := E
  refine we_meth hb he hpl (we_imp h fun d O1 ⟨fs, i, no, q⟩ => ⟨Cl, fs, f, i, hc, mt, no, .mk fun ok σ H S k hk => q ok σ H S k fun vs H' ds O' q S' l r => hk vs H' ds O' (cb_df F hj q) S' l r⟩)
theorem we_mth0 (E : EntM C.M j Cl m T) (hc : Cls C.M.K Cl) (hj : j + 1 ≤ C.k) (hb : MethNode o m p pos [] [] pl)
    (h : DL.WE C X o Γ O fun d O1 => ∃ fs, Ins O1 d Cl fs ∧ fs.lookup m = none ∧ T [d] O1 Q fun x O' => C.ED x Γ O') : DL.WE C X (.Call (.Attribute o m p) [] [] pos) Γ O Q := by
  obtain ⟨f, mt, F⟩ := E
  exact we_meth0 hb (we_imp h fun d O1 ⟨fs, i, no, q⟩ => ⟨Cl, fs, f, i, hc, mt, no, cb_df F hj q⟩)
theorem we_prp (E : EntP C.M j Cl m T) (hc : Cls C.M.K Cl) (hj : j + 1 ≤ C.k) (hb : ∀ env, attributeBase o m env (eval o env) = eval o env)
    (h : DL.WE C X o Γ O fun d O1 => ∃ fs, Ins O1 d Cl fs ∧ T [d] O1 Q fun _ _ => False) : DL.WE C X (.Attribute o m pos) Γ O Q := by
  obtain ⟨pr, g, hp, F⟩ := E
  exact we_prop hb (we_imp h fun d O1 ⟨fs, i, q⟩ => ⟨Cl, fs, pr, g, i, hc, hp, cp_df F hj q⟩)
theorem we_cmt (E : EntC C.M j Cl m T) (hj : j + 1 ≤ C.k) (hb : MethNode o m p pos (e :: es) [] pl) (he : ∀ env, starEach (e :: es) env = (false, eval e env) :: starEach es env) (hpl : ∀ env, (backTo pos (starEach es env)).any (·.1) = false)
    (h : DL.WE C X o Γ O fun d O1 => d = .ref Cl ∧ WA C X (e :: es) Γ O1 fun ds O2 => T (.ref Cl :: ds) O2 Q fun x O' => C.ED x Γ O') : DL.WE C X (.Call (.Attribute o m p) (e :: es) [] pos) Γ O Q := by
  obtain ⟨mc, pr, g, cr, cm, F⟩ := E
  refine we_cm hb he hpl (we_imp h fun d O1 ⟨ed, q⟩ => ⟨Cl, mc, pr, g, ed, cr, cm, .mk fun ok σ H S k hk => q ok σ H S k fun vs H' ds O' q S' l r => hk vs H' ds O' (cb_df F hj q) S' l r⟩)
end

/-! ### defs that the programs share -/
def TInt1 : TF := fun ds O Q _ => ∃ v : Int, ds = [.int v] ∧ Q (.bl true) O
def TWithin : TF := fun ds O Q _ => ∃ v lo hi : Int, ds = [.int v, .int lo, .int hi] ∧ Q (.bl (decide (lo ≤ v ∧ v ≤ hi))) O
def mostN : Int := 10 ^ 60 - 1
def TIsDay : TF := fun ds O Q _ => ∃ v : Int, ds = [.int v] ∧ Q (.bl (decide (-mostN ≤ v ∧ v ≤ mostN))) O
def TNeed : TF := fun ds O Q _ => ∃ v : Int, ds = [.int v] ∧ -mostN ≤ v ∧ v ≤ mostN ∧ Q .non O
end DL
namespace DL
open PySem PySem.Spec PyProof.Rows L2

/-! ### cycles: the plain law -/
def idxFrom : Int → List Int → List Int
  | _, [] => []
  | k, n :: r => List.replicate n.toNat k ++ idxFrom (k + 1) r
def idx (ns : List Int) : List Int := idxFrom 0 ns
def pre (ns : List Int) (b : Nat) : Int := (ns.take b).sum
theorem pre_zero {ns : List Int} : pre ns 0 = 0 := rfl
theorem pre_succ {ns : List Int} {b : Nat} {n : Int} (h : ns[b]? = some n) : pre ns (b + 1) = pre ns b + n := by
  unfold pre
  rw [List.take_succ, h, List.sum_append]
  simp
theorem pre_all {ns : List Int} : pre ns ns.length = ns.sum := by unfold pre; rw [List.take_length]
/-- block b of turn q holds the day d -/
structure InB (ns : List Int) (d q : Int) (b : Nat) : Prop where
  lt : b < ns.length
  lo : q * ns.sum + pre ns b ≤ d
  hi : d < q * ns.sum + pre ns (b + 1)
theorem pre_mono {ns : List Int} (h : ∀ n ∈ ns, 1 ≤ n) : ∀ {a b : Nat}, a ≤ b → b ≤ ns.length → pre ns a + (b - a : Int) ≤ pre ns b
  | a, 0, h1, _ => by
    obtain rfl : a = 0 := by omega
    simp
  | a, b + 1, h1, h2 => by
    by_cases e : a = b + 1
    · subst e; simp
    · have hb : b < ns.length := by omega
      have := pre_mono h (show a ≤ b by omega) (by omega)
      have hn := h _ (List.getElem_mem hb)
      rw [pre_succ (b := b) (n := ns[b]) (by simp [hb])]
      push_cast
      omega
theorem pre_bnd {ns : List Int} (h : ∀ n ∈ ns, 1 ≤ n) {b : Nat} (hb : b ≤ ns.length) : 0 ≤ pre ns b ∧ pre ns b ≤ ns.sum := by
  have h1 := pre_mono h (Nat.zero_le b) hb
  have h2 := pre_mono h hb (Nat.le_refl _)
  rw [pre_zero] at h1
  rw [pre_all] at h2
  omega
/-- where a day is, there only -/
theorem InB.uniq {ns : List Int} (h : ∀ n ∈ ns, 1 ≤ n) {d q q' : Int} {b b' : Nat} (x : InB ns d q b) (y : InB ns d q' b') : q = q' ∧ b = b' := by
  have p1 := pre_bnd h (Nat.le_of_lt x.lt)
  have p2 := pre_bnd h (show b + 1 ≤ ns.length from x.lt)
  have p3 := pre_bnd h (Nat.le_of_lt y.lt)
  have p4 := pre_bnd h (show b' + 1 ≤ ns.length from y.lt)
  have hx := x.lo
  have hx' := x.hi
  have hy := y.lo
  have hy' := y.hi
  have hq : q = q' := by
    rcases Int.lt_trichotomy q q' with z | z | z
    · exfalso
      have : (q + 1) * ns.sum ≤ q' * ns.sum := Int.mul_le_mul_of_nonneg_right (by omega) (by omega)
      rw [Int.add_mul] at this
      omega
    · exact z
    · exfalso
      have : (q' + 1) * ns.sum ≤ q * ns.sum := Int.mul_le_mul_of_nonneg_right (by omega) (by omega)
      rw [Int.add_mul] at this
      omega
  subst hq
  refine ⟨rfl, ?_⟩
  rcases Nat.lt_trichotomy b b' with z | z | z
  · exfalso
    have := pre_mono h (show b + 1 ≤ b' from z) (Nat.le_of_lt y.lt)
    omega
  · exact z
  · exfalso
    have := pre_mono h (show b' + 1 ≤ b from z) (Nat.le_of_lt x.lt)
    omega
theorem idxFrom_len : ∀ {ns : List Int} {k : Int}, (∀ n ∈ ns, 1 ≤ n) → ((idxFrom k ns).length : Int) = ns.sum
  | [], k, _ => rfl
  | n :: r, k, h => by
    have hn := h n List.mem_cons_self
    have := idxFrom_len (k := k + 1) fun m hm => h m (List.mem_cons_of_mem _ hm)
    simp only [idxFrom, List.length_append, List.length_replicate, List.sum_cons]
    push_cast
    omega
theorem idxFrom_get : ∀ {ns : List Int} {k : Int} {i : Nat}, (∀ n ∈ ns, 1 ≤ n) → (i : Int) < ns.sum → ∃ b : Nat, b < ns.length ∧ (idxFrom k ns)[i]? = some (k + b) ∧ pre ns b ≤ i ∧ (i : Int) < pre ns (b + 1)
  | [], k, i, _, h => by simp at h; omega
  | n :: r, k, i, hp, h => by
    have hn := hp n List.mem_cons_self
    rw [List.sum_cons] at h
    by_cases e : (i : Int) < n
    · refine ⟨0, by simp, ?_, by simp [pre], by simp [pre]; omega⟩
      rw [idxFrom, List.getElem?_append_left (by rw [List.length_replicate]; omega), List.getElem?_replicate, if_pos (by omega)]
      simp
    · obtain ⟨b, h1, h2, h3, h4⟩ := idxFrom_get (ns := r) (k := k + 1) (i := i - n.toNat) (fun m hm => hp m (List.mem_cons_of_mem _ hm)) (by omega)
      refine ⟨b + 1, by simp; omega, ?_, ?_, ?_⟩
      · rw [idxFrom, List.getElem?_append_right (by simp; omega), List.length_replicate, h2]
        congr 1
        push_cast
        omega
      · simp only [pre, List.take_succ_cons, List.sum_cons] at h3 ⊢
        omega
      · simp only [pre, List.take_succ_cons, List.sum_cons] at h4 ⊢
        omega
theorem sum_pos {ns : List Int} (g : Good ns) : 1 ≤ ns.sum := by
  obtain ⟨h0, _, h1, _⟩ := g
  cases ns with
  | nil => exact absurd rfl h0
  | cons n r =>
    have := (pre_bnd (ns := r) (fun m hm => h1 m (List.mem_cons_of_mem _ hm)) (Nat.zero_le _)).2
    have hr : 0 ≤ r.sum := by simpa [pre] using this
    have := h1 n List.mem_cons_self
    rw [List.sum_cons]
    omega
/-- the block of a day -/
theorem idx_at {ns : List Int} (g : Good ns) (d : Int) : ∃ b : Nat, (idx ns)[(d % ns.sum).toNat]? = some (b : Int) ∧ InB ns d (d / ns.sum) b := by
  have hs := sum_pos g
  have h0 := Int.emod_nonneg d (b := ns.sum) (by omega)
  have h1 := Int.emod_lt_of_pos d (b := ns.sum) (by omega)
  have h2 := Int.mul_ediv_add_emod d ns.sum
  obtain ⟨b, hb, e, l1, l2⟩ := idxFrom_get (ns := ns) (k := 0) (i := (d % ns.sum).toNat) g.2.2.1 (by omega)
  refine ⟨b, by unfold idx; rw [e]; simp, hb, ?_, ?_⟩
  · rw [Int.mul_comm]; omega
  · rw [Int.mul_comm]; omega
def bI (ns : List Int) (d : Int) : Nat := ((idx ns).getD (d % ns.sum).toNat 0).toNat
theorem bI_in {ns : List Int} (g : Good ns) (d : Int) : InB ns d (d / ns.sum) (bI ns d) := by
  obtain ⟨b, e, h⟩ := idx_at g d
  unfold bI
  rw [List.getD_eq_getElem?_getD, e]
  exact h
theorem idx_atI {ns : List Int} (g : Good ns) (d : Int) : atI ((idx ns).map D.int) (d % ns.sum) = some (.int (bI ns d : Nat)) := by
  have hs := sum_pos g
  have h0 := Int.emod_nonneg d (b := ns.sum) (by omega)
  have h1 := Int.emod_lt_of_pos d (b := ns.sum) (by omega)
  obtain ⟨b, e, _⟩ := idx_at g d
  have hl : ((idx ns).length : Int) = ns.sum := idxFrom_len g.2.2.1
  unfold atI ixN bI
  rw [if_pos h0, if_pos (by rw [List.length_map]; omega), List.getD_eq_getElem?_getD, e]
  simp [e]
end DL
namespace DL
open PySem PySem.Spec PyProof.Rows L2

/-! ### cycles: the objects, the promises -/
abbrev cycF (ns : List Int) : List (Str × D) := [("own_lengths", .tup (ns.map .int)), ("own_total", .int ns.sum), ("index_by_rest", .lst ((idx ns).map .int))]
abbrev cycK : List Str := ["own_lengths", "own_total", "index_by_rest"]
theorem cyc_lk {ns : List Int} {m : Str} (h : cycK.contains m = false) : (cycF ns).lookup m = none := lk_none (ks := cycK) rfl h
def fI (ns : List Int) (d : Int) : Int := d / ns.sum * ns.sum + pre ns (bI ns d)
def lI (ns : List Int) (d : Int) : Int := d / ns.sum * ns.sum + pre ns (bI ns d + 1) - 1
def kI (ns : List Int) (d : Int) : Int := d / ns.sum * (ns.length : Int) + (bI ns d : Int)
def nI (ns : List Int) (d : Int) : Int := ns.getD (bI ns d) 0
theorem nI_get {ns : List Int} (g : Good ns) (d : Int) : ns[bI ns d]? = some (nI ns d) := by
  have := (bI_in g d).lt
  unfold nI
  rw [List.getD_eq_getElem?_getD]
  simp [this]
theorem pre_bI {ns : List Int} (g : Good ns) (d : Int) : pre ns (bI ns d + 1) = pre ns (bI ns d) + nI ns d := pre_succ (nI_get g d)
theorem atI_of {α : Type} {xs : List α} {b : Nat} {d : α} (h : xs[b]? = some d) : atI xs (b : Nat) = some d := by
  have hb := (List.getElem?_eq_some_iff.mp h).1
  unfold atI ixN
  rw [if_pos (by omega), if_pos (by omega)]
  simpa using h
theorem lg {n : Int} (h0 : 0 < n) (h : n ≤ 60) : n.natAbs.log2 < 9000 := Nat.lt_trans ((Nat.log2_lt (by omega)).mpr (show n.natAbs < 2 ^ 6 by omega)) (by decide)
theorem putD_ne {f g : Str} {v x : D} {r : List (Str × D)} (h : ¬ g = f) : putD f v ((g, x) :: r) = (g, x) :: putD f v r := if_neg h
theorem idxFrom_snoc : ∀ {ns : List Int} {k n : Int}, idxFrom k (ns ++ [n]) = idxFrom k ns ++ List.replicate n.toNat (k + ns.length)
  | [], k, n => by simp [idxFrom]
  | m :: r, k, n => by
    rw [List.cons_append, idxFrom, idxFrom, idxFrom_snoc, List.append_assoc]
    congr 3
    simp only [List.length_cons]
    push_cast
    omega
theorem idx_take {ns : List Int} {i : Nat} {n : Int} (h : ns[i]? = some n) : idxFrom 0 (ns.take (i + 1)) = idxFrom 0 (ns.take i) ++ List.replicate n.toNat (i : Int) := by
  have hi := (List.getElem?_eq_some_iff.mp h).1
  rw [List.take_succ, h, Option.toList_some, idxFrom_snoc, List.length_take, Nat.min_eq_left (by omega), Int.zero_add]
theorem idx_take_len {ns : List Int} (g : Good ns) (i : Nat) : (idxFrom 0 (ns.take i)).length ≤ 60 := by
  have h1 : ∀ n ∈ ns.take i, 1 ≤ n := fun n hn => g.2.2.1 n (List.mem_of_mem_take hn)
  have h2 := idxFrom_len (k := 0) h1
  by_cases hi : i ≤ ns.length
  · have := (pre_bnd g.2.2.1 hi).2
    have := g.2.2.2
    unfold pre at *
    omega
  · rw [List.take_of_length_le (by omega)] at h2 ⊢
    have := g.2.2.2
    omega
theorem good_le {ns : List Int} (g : Good ns) {n : Int} (h : n ∈ ns) : 1 ≤ n ∧ n ≤ 60 := by
  obtain ⟨i, hi, rfl⟩ := List.getElem_of_mem h
  have e : ns[i]? = some ns[i] := by simp [hi]
  have h1 := pre_bnd g.2.2.1 (Nat.le_of_lt hi)
  have h2 := pre_bnd g.2.2.1 (show i + 1 ≤ ns.length from hi)
  rw [pre_succ e] at h2
  have := g.2.2.2
  exact ⟨g.2.2.1 _ h, by omega⟩
/-- a method at a day -/
def TDay (Cl : Addr) (P : Int → Prop) (r : List Int → Int → Int) : TF := fun ds O Q _ => ∃ ns d, ds = [.ins Cl (cycF ns), .int d] ∧ Good ns ∧ P d ∧ Q (.int (r ns d)) O
def okDay (d : Int) : Prop := -mostN ≤ d ∧ d ≤ mostN
def TSelf (Cl : Addr) (r : List Int → D) : TF := fun ds O Q _ => ∃ ns, ds = [.ins Cl (cycF ns)] ∧ Good ns ∧ Q (r ns) O
def TInit (Cl : Addr) : TF := fun ds O Q _ => ∃ a ns O', ds = [.ref a, .tup (ns.map .int)] ∧ Good ns ∧ OUp O a (.ins Cl []) (.ins Cl (cycF ns)) O' ∧ Q .non O'
def TOf (Cl : Addr) : TF := fun ds O Q _ => ∃ ns x, ds = [.ref Cl, x] ∧ SqO O x (ns.map .int) ∧ Good ns ∧ Q (.ins Cl (cycF ns)) O
structure CycT (K : PySem.W.Frag) (Cl : Addr) : Prop where
  cl : Cls K Cl
  n1 : NoAttr K Cl "own_lengths"
  n2 : NoAttr K Cl "own_total"
  n3 : NoAttr K Cl "index_by_rest"
section
variable {C : CD} {X : Cx} {Γ : En} {O : Own} {Q : D → Own → Prop} {o : Expr} {pos : Pos} {Cl : Addr}
theorem wf_len (T : CycT C.M.K Cl) (hb : ∀ env, attributeBase o "own_lengths" env (eval o env) = eval o env) (h : DL.WE C X o Γ O fun d O1 => ∃ ns, d = .ins Cl (cycF ns) ∧ Q (.tup (ns.map .int)) O1) : DL.WE C X (.Attribute o "own_lengths" pos) Γ O Q :=
  we_fld hb (we_imp h fun d O1 ⟨ns, e, q⟩ => ⟨Cl, cycF ns, _, by rw [e]; exact .ins, T.cl, T.n1, .here, q⟩)
theorem wf_tot (T : CycT C.M.K Cl) (hb : ∀ env, attributeBase o "own_total" env (eval o env) = eval o env) (h : DL.WE C X o Γ O fun d O1 => ∃ ns, d = .ins Cl (cycF ns) ∧ Q (.int ns.sum) O1) : DL.WE C X (.Attribute o "own_total" pos) Γ O Q :=
  we_fld hb (we_imp h fun d O1 ⟨ns, e, q⟩ => ⟨Cl, cycF ns, _, by rw [e]; exact .ins, T.cl, T.n2, .there (by decide +kernel) .here, q⟩)
theorem wf_idx (T : CycT C.M.K Cl) (hb : ∀ env, attributeBase o "index_by_rest" env (eval o env) = eval o env) (h : DL.WE C X o Γ O fun d O1 => ∃ ns, d = .ins Cl (cycF ns) ∧ Q (.lst ((idx ns).map .int)) O1) : DL.WE C X (.Attribute o "index_by_rest" pos) Γ O Q :=
  we_fld hb (we_imp h fun d O1 ⟨ns, e, q⟩ => ⟨Cl, cycF ns, _, by rw [e]; exact .ins, T.cl, T.n3, .there (by decide +kernel) (.there (by decide +kernel) .here), q⟩)
end
end DL
namespace DL
open PySem PySem.Spec PyProof.Rows L2

/-! ### range of numbers of any size -/
theorem turn_far {P : Program} {w : World} {K : PySem.W.Frag} {tg : Expr} (r : Addr) (lo : Int) (n : Nat) : Turn P w K tg (Itr lo n) [r] r (fun i h => IsLongIter h r (lo + (i : Nat) * 1) ((n : Int) - (i : Nat)) 1) where
  mem := List.mem_cons_self
  obj := fun i h st b hb => by
    obtain rfl := List.mem_singleton.mp hb
    exact ⟨_, st, fun v z => nomatch z⟩
  keep := fun i h h' st k => k r List.mem_cons_self _ st
  item := fun X hP hw hK calm i pins s σ H E I fp st lt => by
    subst hP; subst hw; subst hK
    obtain ⟨f0, f1, f2, f3, f4, f5⟩ := fp r List.mem_cons_self
    refine (Walks.longrange (prog := X.prog) (w := X.w) (I.ok.hd calm) r lo 1 n).item i s _ _ lt st fun v h1 tk hv st1 kp => ?_
    obtain ⟨t, rfl⟩ := hv
    have J : Inv X pins σ H { s with heap := h1, toks := tk } := I.turned (fun b o hb q => kp b o (by simpa using hb) q) f0 f1 f3 f4 f5
    exact ⟨_, rfl, go_of (s := { s with heap := h1, toks := tk }) (n := "longrange_iterator") st1 rfl rfl (by decide) ⟨.int (lo + i), H, J, ⟨t, by rw [Int.mul_one]⟩, ⟨rfl, rfl⟩, st1, fun b hb => (fp b hb).1⟩⟩
  done := fun X hP hw hK calm i pins s σ H E I fp st le => by
    subst hP; subst hw; subst hK
    obtain ⟨f0, f1, f2, f3, f4, f5⟩ := fp r List.mem_cons_self
    have le' : n ≤ i := le
    exact wpAny_pyNext_long_end (I.ok.hd calm) st (by omega) fun h1 eb => ⟨rfl, I.turned (t' := s.toks) (fun b o hb q => eb b o hb q) f0 f1 f3 f4 f5⟩
  self := fun _ _ _ _ _ st q => wpAny_pyIter_longiter st q
theorem rng_any {X : Cx} {tg : Expr} {pins : List (Addr × Obj)} {σ : St} {H : Hp} {s : Shared} {R : It → Hp → Prop} {E : Value → Shared → Prop} {lo hi : Int} {t u v : Tok} {tk : Nat} (I : Inv X pins σ H s)
    (q : R (Itr lo (hi - lo).toNat) H) : wpAny (model X.prog X.w) X.A (pyIter (.ref s.heap.objs.size)) (PIE X pins σ tg R) E { s with heap := s.heap.push { cls := .type "range", data := .fields #[.int lo t, .int hi u, .int 1 v] }, toks := tk } := by
  have J : Inv X pins σ H { s with heap := s.heap.push { cls := .type "range", data := .fields #[.int lo t, .int hi u, .int 1 v] }, toks := tk } := I.kept fun b o e => Heap.get?_push_of_some _ e
  have e1 : lo + ((0 : Nat) : Int) * 1 = lo := by simp
  have e2 : (((hi - lo).toNat : Nat) : Int) - ((0 : Nat) : Int) = Builtin.Range.rangeSize lo hi 1 := by
    rw [rangeSize_one]
    split <;> omega
  have fresh : ∀ b ∈ [(s.heap.push { cls := .type "range", data := .fields #[.int lo t, .int hi u, .int 1 v] }).objs.size], FpOk X pins H b := fun b hb => by
    obtain rfl := List.mem_singleton.mp hb
    exact J.fpOk (Nat.le_refl _) (J.hok.fresh (Nat.le_refl _))
  cases sm : Builtin.Range.small lo hi 1 with
  | true =>
    refine wpAny_pyIter_range (IsRange.new ..) sm ⟨_, [_], _, _, H, rfl, J.kept (t' := tk) fun b o e => Heap.get?_push_of_some _ e, turn_range _ lo (hi - lo).toNat, ?_, fresh, q⟩
    show IsRangeIter _ _ (lo + ((0 : Nat) : Int) * 1) ((((hi - lo).toNat : Nat) : Int) - ((0 : Nat) : Int)) 1
    rw [e1, e2]
    exact Heap.get?_push_size _ rfl
  | false =>
    refine wpAny_pyIter_longrange (IsRange.new ..) sm ⟨_, [_], _, _, H, rfl, J.kept (t' := tk) fun b o e => Heap.get?_push_of_some _ e, turn_far _ lo (hi - lo).toNat, ?_, fresh, q⟩
    show IsLongIter _ _ (lo + ((0 : Nat) : Int) * 1) ((((hi - lo).toNat : Nat) : Int) - ((0 : Nat) : Int)) 1
    rw [e1, e2]
    exact Heap.get?_push_size _ rfl
section
variable {X : Cx} {tg a b : Expr} {ta : TA} {p pos : Pos}
def iFar (ta : TA) : TI := fun σ H R => ta σ H fun vs H1 => ∃ i j : Int, vs = [.int i, .int j] ∧ R (Itr i (j - i).toNat) H1
theorem pi_far (g : Gl X "range") (m : X.mg "range" = none) (ha : PA X [a, b] ta) (hs : starEach [a, b] X.env = [(false, eval a X.env), (false, eval b X.env)]) (hs2 : starEach [b] X.env = [(false, eval b X.env)]) : PI X tg (.Call (.Name "range" p) [a, b] [] pos) (iFar ta) := by
  refine ⟨fun pins s σ H R I h => ?_⟩
  have key : ∀ (s1 : Shared) (us : List Value), AP X pins σ (fun vs H1 => ∃ i j : Int, vs = [.int i, .int j] ∧ R (Itr i (j - i).toNat) H1) us s1 → wpAny (model X.prog X.w) X.A (call (.type "range") us) (fun v s1 => wpAny (model X.prog X.w) X.A (pyIter v) (PIE X pins σ tg R) X.xe s1) X.xe s1 := by
    rintro s1 us ⟨vs, H1, I1, r1, i, j, rfl, q⟩
    obtain ⟨u1, u2, rfl, r, r'⟩ : ∃ u1 u2, us = [u1, u2] ∧ RelV (.int i) u1 ∧ RelV (.int j) u2 := by
      cases r1 with
      | cons x xs =>
        cases xs with
        | cons y ys => cases ys; exact ⟨_, _, rfl, x, y⟩
    obtain ⟨t, rfl⟩ := r
    obtain ⟨t', rfl⟩ := r'
    exact call_range_2 (rng_any I1 q)
  refine Call_ (ld_blt I g m boot_range (PyProof.Rows.callWith_type1 (thn (ha.run pos pins s σ H _ I h) fun us s1 q => key s1 us q) ?_ ?_))
  · rw [hs, hs2]
  · rw [hs2]
    rfl
end
section
variable {C : CD} {X : Cx} {Γ : En} {O : Own} {tg a b : Expr} {p pos : Pos} {R : List D → (Own → Prop) → Own → Prop}
theorem wi_far (hm : C.M.mg "range" = none) (g : ("range" : Str) ∈ C.Gs) (hs : ∀ env, starEach [a, b] env = [(false, eval a env), (false, eval b env)]) (hs2 : ∀ env, starEach [b] env = [(false, eval b env)])
    (h : WA C X [a, b] Γ O fun ds O1 => ∃ i j : Int, ds = [.int i, .int j] ∧ R (rngD i (j - i).toNat) (fun _ => True) O1) : WI C X tg (.Call (.Name "range" p) [a, b] [] pos) Γ O R := .mk fun ok σ H S k hk =>
  iw_of (pi_far (ok.gl _ g).1 (by rw [ok.mg]; exact hm) pa_aw (hs _) (hs2 _)) (h ok σ H S _ fun vs H1 ds O1 q1 S1 l1 r1 => by
    obtain ⟨i, j, rfl, q⟩ := q1
    obtain ⟨x, y, rfl, rx, ry⟩ := reps2 r1
    rw [rep_int] at rx ry
    subst rx; subst ry
    exact ⟨i, j, rfl, hk _ H1 _ _ O1 q S1 l1 genJ_rng⟩)
end
end DL
namespace DL
open PySem PySem.Spec PyProof.Rows L2
open Sem (wp)
open AutoSeq1 (wpAny_loadPart')

/-! ### int op instance -/
theorem ni_mod (d : Int) (t : Tok) (x C dx : Addr) : Meets (Builtin.«int.__mod__» ⟨[.int d t, .ref x], []⟩) (fun _ R s => s.heap.get? x = some (PySem.W.instObj C dx) ∧ R (.ok (.ret .notImplemented)) s) := .of_wp fun prog w A R s h => by
  obtain ⟨hp, gs, dr, tk, os⟩ := s
  obtain ⟨at_, h⟩ := h
  unfold PySem.W.instObj at at_
  wp_walk using wpAny_loadPart' at_
  exact ⟨_, rfl, h⟩
theorem ni_fdv (d : Int) (t : Tok) (x C dx : Addr) : Meets (Builtin.«int.__floordiv__» ⟨[.int d t, .ref x], []⟩) (fun _ R s => s.heap.get? x = some (PySem.W.instObj C dx) ∧ R (.ok (.ret .notImplemented)) s) := .of_wp fun prog w A R s h => by
  obtain ⟨hp, gs, dr, tk, os⟩ := s
  obtain ⟨at_, h⟩ := h
  unfold PySem.W.instObj at at_
  wp_walk using wpAny_loadPart' at_
  exact ⟨_, rfl, h⟩
section
variable {K : PySem.W.Frag} {C f : Addr}
theorem fills_R {M : Model} {h : Heap} {nm : String} {cd : ClassData} {rest : List Value} (X : K.In h) (hc : PySem.W.clsIn K C = some cd) (hm : cd.mro = .ref C :: rest) (h0 : PySem.W.findIn K (.ref C) (dunder nm) = some none) (h1 : PySem.W.findIn K (.ref C) (dunderR nm) = some (some (.ref f))) :
    PySem.W.Looks M h (fillsNumberSlot (.ref C) nm) true := fun A Q E s k q => by
  unfold fillsNumberSlot
  refine wpAny_bind ((PySem.W.looks_clsIn X hc).andThen (f := fun c => pure c.mro) .now A _ E s k ?_)
  rw [hm, List.anyM_cons]
  refine wpAny_bind (?_ : wpAny M A (List.anyM _ [dunder nm, dunderR nm]) _ E s)
  rw [List.anyM_cons]
  refine wpAny_bind (wpAny_bind (PySem.W.looks_findIn X h0 A _ E s k (wpAny_pure ?_)))
  rw [if_neg (by decide), List.anyM_cons]
  refine wpAny_bind (wpAny_bind (PySem.W.looks_findIn X h1 A _ E s k ?_))
  dsimp only
  rw [if_pos (show (!ownNameWrapper (.ref f) (dunderR nm)) = true from rfl)]
  refine wpAny_pure ?_
  rw [if_pos rfl]
  exact wpAny_pure (wpAny_pure q)
theorem wp_refl {prog : Program} {w : World} {A : Around} {E : Value → Shared → Prop} {s : Shared} {op : Operator} {nm id : String} {Bt : Builtin} {d : Int} {t : Tok} {x dx : Addr} {od : Option Obj} {cd : ClassData} {rest : List Value} {Q : Value → Shared → Prop} (X : K.In s.heap) (I : PySem.W.InstAt s.heap x (PySem.W.instObj C dx) C od) (ho : op.info.2 = nm)
    (fl : fillsNumberSlot (.type "int") nm = pure true) (sl : Slot "int" (dunder nm) id) (en : entryFor table id = some Bt) (ar : argsOk id ⟨[.int d t, .ref x], []⟩) (ni : Meets (Bt ⟨[.int d t, .ref x], []⟩) (fun _ R s => s.heap.get? x = some (PySem.W.instObj C dx) ∧ R (.ok (.ret .notImplemented)) s))
    (hc : PySem.W.clsIn K C = some cd) (hm : cd.mro = .ref C :: rest) (sb : PySem.W.subIn K (.ref C) (.type "int") = some false) (h0 : PySem.W.findIn K (.ref C) (dunder nm) = some none) (h1 : PySem.W.findIn K (.ref C) (dunderR nm) = some (some (.ref f))) (hf : PySem.W.isFn K (.ref f) = true)
    (h : wpAny (model prog w) A (call (.ref f) [.ref x, .int d t]) (fun v s' => v ≠ .notImplemented ∧ Q v s') E s) : wpAny (model prog w) A (binaryOp op (.int d t) (.ref x)) Q E s := by
  obtain ⟨sym, hi⟩ : ∃ sym, op.info = (sym, nm) := ⟨op.info.1, by rw [← ho]⟩
  have ti : s.TypeIs (.int d t) "int" := typeIs_int s d t
  simp only [binaryOp, hi]
  refine wpAny_holding (wpAny_bind ?_)
  simp only [binaryOp1]
  refine wpAny_bind (wpAny_typeOf ti (wpAny_bind (I.type.here (wpAny_bind (wpAny_of_eq fl ?_)))))
  rw [if_neg (show ¬ ((Value.type "int" == Value.ref C) = true) from Bool.false_ne_true)]
  refine wpAny_bind ((fills_R X hc hm h0 h1).here ?_)
  simp only [Bool.and_self, if_true]
  refine wpAny_bind ((PySem.W.looks_subIn X sb).here ?_)
  have py : numberSlotInPython (.type "int") nm = pure false := rfl
  simp only [Bool.false_eq_true, if_false, pure_bind, Bool.not_false, Bool.and_self, if_true, py]
  simp only [tryMethod]
  refine wpAny_bind (wpAny_bind (wpAny_callSpecial?_slot ti sl (call_meets sl ti en ar ni ⟨I.at_, ?_⟩)))
  refine wpAny_pure (wpAny_bind (wpAny_bind (PySem.W.special_fn X I h1 (beq_iff_eq.mp hf) (wpAny_mono h (fun v s' hv => ?_) fun _ _ z => z))))
  cases v <;> first | exact absurd rfl hv.1 | exact wpAny_pure (wpAny_bind (wpAny_rule (wpAny_pure (wpAny_pure hv.2))))
end
end DL
namespace DL
open PySem PySem.Spec PyProof.Rows L2

/-- what of the class an operator with an int at its left asks -/
structure Refl (K : PySem.W.Frag) (Cl : Addr) (nm : String) : Prop where
  sf : PySem.W.selfFirst K Cl = true
  sb : PySem.W.subIn K (.ref Cl) (.type "int") = some false
  h0 : PySem.W.findIn K (.ref Cl) (dunder nm) = some none
theorem Refl.cd {K : PySem.W.Frag} {Cl : Addr} {nm : String} (r : Refl K Cl nm) : ∃ cd rest, PySem.W.clsIn K Cl = some cd ∧ cd.mro = .ref Cl :: rest := by
  obtain ⟨cd, hcd, hm⟩ := PySem.W.any_some r.sf
  cases q : cd.mro with
  | nil => rw [q] at hm; cases hm
  | cons a rest =>
    rw [q, List.head?_cons] at hm
    cases beq_iff_eq.mp hm
    exact ⟨cd, rest, hcd, q⟩
theorem rel_ni {v : V} {u : Value} (r : RelV v u) : u ≠ .notImplemented := by
  rintro rfl
  cases v <;> first | exact nomatch r | (obtain ⟨_, e⟩ := r; cases e)
section
variable {C : CD} {X : Cx} {Γ : En} {O : Own} {Q : D → Own → Prop} {Cl : Addr} {j : Nat} {T : TF} {d : Int} {di : D} {fs : List (Str × D)}
theorem run_refl {nm id rn : String} {op : Operator} {Bt : Builtin} (R : Refl C.M.K Cl nm) (hc : Cls C.M.K Cl) (E : EntM C.M j Cl (dunderR nm) T) (hj : j + 1 ≤ C.k) (hi : Ins O di Cl fs) (ho : op.info.2 = nm) (fl : fillsNumberSlot (.type "int") nm = pure true) (sl : Slot "int" (dunder nm) id) (en : entryFor table id = some Bt)
    (ar : ∀ a b, argsOk id ⟨[a, b], []⟩) (ni : ∀ d t x C dx, Meets (Bt ⟨[.int d t, .ref x], []⟩) (fun _ R s => s.heap.get? x = some (PySem.W.instObj C dx) ∧ R (.ok (.ret .notImplemented)) s))
    (h : T [di, .int d] O Q fun x O' => C.ED x Γ O') : OW C X (binaryOp op) (.int d) di Γ O Q := .mk fun ok σ H S v w rx ry k hk pins s v' w' I rv rw' => by
  rw [rep_int] at rx
  subst rx
  obtain ⟨t, rfl⟩ := rv
  obtain ⟨a, dx, gs, rfl, ea, rf⟩ := hi.ok S.own ry
  obtain rfl : w' = Value.ref a := rw'
  obtain ⟨f, mt, F⟩ := E
  obtain ⟨mA, Ob, _, _, _, _⟩ := ins_get I.hok ea
  obtain ⟨od, J, _⟩ := Ob.look
  obtain ⟨cd, rest, hcd, hm⟩ := R.cd
  have KX : C.M.K.In s.heap := by rw [← ok.K]; exact I.kIn
  refine wp_refl KX J ho fl sl en (ar _ _) (ni d t a Cl dx) hcd hm R.sb R.h0 mt.at_ mt.fn ?_
  refine wpAny_mono ((cb_df F hj h).call ok S hk (reps_cons.mpr ⟨_, _, rfl, ry, reps_cons.mpr ⟨_, _, rfl, rep_int.mpr rfl, reps_nil.mpr rfl⟩⟩) (reps_nil.mpr rfl) pins s [.ref a, .int d t] [] I (.cons rfl (.cons ⟨t, rfl⟩ .nil)) .nil rfl) (fun u s' q => ⟨?_, q⟩) fun _ _ q => q
  obtain ⟨_, _, _, r, _⟩ := q
  exact rel_ni r
theorem ow_rmod (R : Refl C.M.K Cl "mod") (hc : Cls C.M.K Cl) (E : EntM C.M j Cl (dunderR "mod") T) (hj : j + 1 ≤ C.k) (hi : Ins O di Cl fs) (h : T [di, .int d] O Q fun x O' => C.ED x Γ O') : OW C X (binaryOp .Mod) (.int d) di Γ O Q :=
  run_refl (rn := "") R hc E hj hi rfl F.fills_int_mod F.slot_int_mod F.entry_int_mod F.args_int_mod_2 ni_mod h
theorem ow_rfdv (R : Refl C.M.K Cl "floordiv") (hc : Cls C.M.K Cl) (E : EntM C.M j Cl (dunderR "floordiv") T) (hj : j + 1 ≤ C.k) (hi : Ins O di Cl fs) (h : T [di, .int d] O Q fun x O' => C.ED x Γ O') : OW C X (binaryOp .FloorDiv) (.int d) di Γ O Q :=
  run_refl (rn := "") R hc E hj hi rfl F.fills_int_floordiv F.slot_int_floordiv F.entry_int_floordiv F.args_int_floordiv_2 ni_fdv h
/-- len(o), o an instance -/
theorem bf_lenI (E : EntM C.M j Cl "__len__" T) (hc : Cls C.M.K Cl) (hj : j + 2 ≤ C.k) (hi : Ins O di Cl fs) {n : Int} (h0 : 0 ≤ n) (h1 : n < 2 ^ 63) (h : ∀ Q', Q' (.int n) O → T [di] O Q' fun _ _ => False) (q : Q (.int n) O) : BF C (.builtin "len") [di] Γ O Q := .mk fun X ok σ H S vs rv k hk pins s us I r => by
  obtain ⟨v, rfl, rx⟩ := reps1 rv
  obtain ⟨a, dx, gs, rfl, ea, rf⟩ := hi.ok S.own rx
  obtain ⟨u, rfl, ru⟩ : ∃ u, us = [u] ∧ RelV (.ref a) u := by
    cases r with
    | cons r rr => cases rr; exact ⟨_, rfl, r⟩
  obtain rfl : u = Value.ref a := ru
  obtain ⟨f, mt, F⟩ := E
  obtain ⟨mA, Ob, _, _, _, _⟩ := ins_get I.hok ea
  obtain ⟨od, J, _⟩ := Ob.look
  have KX : C.M.K.In s.heap := by rw [← ok.K]; exact I.kIn
  refine Calls.call_function_entry kind_len plain_len entry_len (args_len1 _) ?_
  unfold Builtin.«len»
  refine wpAny_bind (m := oneArg "len" _) (wpAny_pure (wpAny_bind (m := callSpecial? (.ref a) (Str.ofString "__len__")) ?_))
  -- what __len__ answers
  have run := cp_df (Q := fun d O' => d = .int n ∧ O' = O) (Γ := Γ) F (by omega : j + 1 ≤ C.k) (h _ ⟨rfl, rfl⟩) X ok σ H S [.ref a] (reps_cons.mpr ⟨_, _, rfl, rx, reps_nil.mpr rfl⟩) (fun v H' => v = .int n ∧ k (.int n) H') (fun v H' d O' ⟨e1, e2⟩ S' l' r' => by
    subst e1; subst e2
    exact ⟨rep_int.mp r', hk (.int n) H' (.int n) O' q S' l' (rep_int.mpr rfl)⟩) X.A.in1 pins s [.ref a] (.inr rfl) I (.cons rfl .nil)
  refine PySem.W.special_fn KX J mt.at_ (beq_iff_eq.mp mt.fn) (wpAny_call (codeAny_mono run fun rs s' z => ?_))
  match rs, z with
  | .ok (.ret u), z =>
    obtain ⟨v, H', I', rv', ev, z⟩ := z
    subst ev
    obtain ⟨t, rfl⟩ := rv'
    refine wpAny_bind (wpAny_holding (wpAny_pure ?_))
    refine wpAny_bind (wpAny_letGo ?_)
    show wpAny _ _ (if n < 0 then _ else _) _ _ _
    rw [if_neg (by omega)]
    show wpAny _ _ (if n ≥ 2 ^ 63 then _ else _) _ _ _
    rw [if_neg (by omega)]
    exact wpAny_bind (wpAny_mkInt (wpAny_pure ⟨_, rfl, .int n, H', I'.tok _, ⟨_, rfl⟩, z⟩))
end
end DL
namespace DL
open PySem PySem.Spec PyProof.Rows L2

/-! ### f'..' -/
section
variable {C : CD} {X : Cx} {Γ : En} {O : Own} {Q : D → Own → Prop} {e : Expr} {es : List Expr} {pos : Pos}
/-- {e} of a text or a number -/
theorem we_fmt (h : DL.WE C X e Γ O fun d O1 => (∃ y : Str, d = .str y ∧ y.length ≤ sizeLine ∧ Q (.str y) O1) ∨ ∃ i : Int, d = .int i ∧ i.natAbs.log2 < 1920 ∧ Q (.str (toString i)) O1) : DL.WE C X (.FormattedValue e (-1) none pos) Γ O Q := .mk fun ok σ H S k hk =>
  ew_of (pe_fmt pe_ew) (h ok σ H S _ fun v H1 d O1 q1 S1 l1 r1 => by
    rcases q1 with ⟨y, rfl, hy, q⟩ | ⟨i, rfl, hi, q⟩
    · exact .inl ⟨y, rep_str.mp r1, hy, (hk.le l1).at q S1 (rep_str.mpr rfl)⟩
    · exact .inr ⟨i, rep_int.mp r1, hi, (hk.le l1).at q S1 (rep_str.mpr rfl)⟩)
/-- the parts of an f-text, one behind the other -/
structure WJ (C : CD) (X : Cx) (es : List Expr) (Γ : En) (O : Own) (acc : Str) (Q : Str → Own → Prop) : Prop where
  run : Ok C X → ∀ σ H, Sat C Γ O σ H → ∀ k : Str → Hp → Prop, (∀ y H' O', Q y O' → Sat C Γ O' σ H' → Le O H O' H' → k y H') → tJs (es.map fun e => EW X e) acc σ H k
theorem wj_nil {acc : Str} {QS : Str → Own → Prop} (q : QS acc O) : WJ C X [] Γ O acc QS := ⟨fun ok σ H S k hk => hk acc H O q S (Le.refl _ _)⟩
theorem wj_cons {acc : Str} {QS : Str → Own → Prop} (h : DL.WE C X e Γ O fun d O1 => ∃ y : Str, d = .str y ∧ (acc ++ y).length ≤ sizeLine ∧ WJ C X es Γ O1 (acc ++ y) QS) : WJ C X (e :: es) Γ O acc QS := ⟨fun ok σ H S k hk =>
  h ok σ H S _ fun v H1 d O1 q1 S1 l1 r1 => by
    obtain ⟨y, rfl, hy, q⟩ := q1
    exact ⟨y, rep_str.mp r1, hy, q.run ok σ H1 S1 k fun z H2 O2 q2 S2 l2 => hk z H2 O2 q2 S2 (l1.trans l2)⟩⟩
theorem pj_all {X : Cx} : ∀ es : List Expr, PJ X es (es.map fun e => EW X e)
  | [] => .nil
  | _ :: es => .cons pe_ew (pj_all es)
theorem we_fstr {e2 : Expr} (h : WJ C X (e :: e2 :: es) Γ O Str.empty fun y O1 => Q (.str y) O1) : DL.WE C X (.JoinedStr (e :: e2 :: es) pos) Γ O Q := .mk fun ok σ H S k hk =>
  ew_of (pe_joined (pj_all _)) (h.run ok σ H S (fun y H' => k (.str y) H') fun y H' O' q S' l => hk _ H' _ O' q S' l (rep_str.mpr rfl))
theorem we_fstr1 (h : DL.WE C X e Γ O Q) : DL.WE C X (.JoinedStr [e] pos) Γ O Q := .mk fun ok σ H S k hk => ew_of (pe_joined1 pe_ew) (h ok σ H S k hk)
end
end DL
namespace DL
open PySem PySem.Spec PyProof.Rows L2

/-! ### more built-ins -/
section
variable {C : CD} {X : Cx} {Γ : En} {O : Own} {Q : D → Own → Prop} {i j : Int} {x y : Str}
theorem bf_max2 (q : Q (.int (if j > i then j else i)) O) : BF C (.builtin "max") [.int i, .int j] Γ O Q := bf_of (fun X ok => call_max2 ok.calm) fun σ H vs S r0 k hk => by
  obtain ⟨v, w, rfl, r1, r2⟩ := reps2 r0
  rw [rep_int] at r1 r2
  subst r1; subst r2
  exact ⟨i, j, rfl, hk.at q S (rep_int.mpr rfl)⟩
theorem bf_min2 (q : Q (.int (if j < i then j else i)) O) : BF C (.builtin "min") [.int i, .int j] Γ O Q := bf_of (fun X ok => call_min2 ok.calm) fun σ H vs S r0 k hk => by
  obtain ⟨v, w, rfl, r1, r2⟩ := reps2 r0
  rw [rep_int] at r1 r2
  subst r1; subst r2
  exact ⟨i, j, rfl, hk.at q S (rep_int.mpr rfl)⟩
theorem bf_strI (hi : i.natAbs.log2 < 1920) (q : Q (.str (toString i)) O) : BF C (.type "str") [.int i] Γ O Q := bf_of (fun X ok => call_str_int) fun σ H vs S r0 k hk => by
  obtain ⟨v, rfl, r1⟩ := reps1 r0
  rw [rep_int] at r1
  subst r1
  exact ⟨i, rfl, hi, hk.at q S (rep_str.mpr rfl)⟩
theorem bf_strS (q : Q (.str x) O) : BF C (.type "str") [.str x] Γ O Q := bf_of (fun X ok => SkE.call_str_str) fun σ H vs S r0 k hk => by
  obtain ⟨v, rfl, r1⟩ := reps1 r0
  rw [rep_str] at r1
  subst r1
  exact ⟨x, rfl, hk.at q S (rep_str.mpr rfl)⟩
theorem bf_reprI (hi : i.natAbs.log2 < 1920) (q : Q (.str (toString i)) O) : BF C (.builtin "repr") [.int i] Γ O Q := bf_of (fun X ok => SkE.call_repr_int) fun σ H vs S r0 k hk => by
  obtain ⟨v, rfl, r1⟩ := reps1 r0
  rw [rep_int] at r1
  subst r1
  exact ⟨i, rfl, hi, hk.at q S (rep_str.mpr rfl)⟩
/-- flat data as values -/
def D.sv : D → V
  | .bl b => .bl b
  | .int i => .int i
  | .str x => .str x
  | _ => .non
def D.fl : D → Bool
  | .non => true
  | .bl _ => true
  | .int _ => true
  | .str _ => true
  | _ => false
theorem fl_rep {K : PySem.W.Frag} {N : Addr → Prop} {H : Hp} {d : D} {v : V} (h : d.fl = true) (r : Rep K N H d v) : v = d.sv ∧ flatV v = true := by
  cases d <;> first | (simp only [Rep] at r; subst r; exact ⟨rfl, rfl⟩) | cases h
theorem fls_rep {K : PySem.W.Frag} {N : Addr → Prop} {H : Hp} : ∀ {ds : List D} {vs : List V}, ds.all D.fl = true → Reps K N H ds vs → vs = ds.map D.sv ∧ vs.all flatV = true
  | [], vs, _, r => by rw [reps_nil] at r; subst r; exact ⟨rfl, rfl⟩
  | d :: ds, vs, h, r => by
    rw [reps_cons] at r
    obtain ⟨v, ws, rfl, r1, r2⟩ := r
    rw [List.all_cons, Bool.and_eq_true] at h
    obtain ⟨e1, f1⟩ := fl_rep h.1 r1
    obtain ⟨e2, f2⟩ := fls_rep h.2 r2
    exact ⟨by rw [e1, e2]; rfl, by rw [List.all_cons, f1, f2]; rfl⟩
theorem ow_in {a b : D} {ds : List D} (hx : a.fl = true) (hs : Sq O b ds) (hf : ds.all D.fl = true) (q : Q (.bl (inV a.sv (ds.map D.sv))) O) : OW C X (compareOp .In) a b Γ O Q := .mk fun ok σ H S v w rx ry k hk pins s v' w' I rv rw' => by
  obtain ⟨p, xs, rfl, sq, rs⟩ := hs.ok S.own ry
  obtain ⟨e1, f1⟩ := fl_rep hx rx
  obtain ⟨e2, f2⟩ := fls_rep hf rs
  refine op_in_seq pins s σ H v (.ref p) v' w' k I rv rw' ⟨p, xs, rfl, by rw [ok.K]; exact sq, f1, f2, ?_⟩
  simp only [Bool.false_eq_true, if_false]
  rw [e1, e2]
  exact hk.at q S (rep_bl.mpr rfl)
theorem ow_notin {a b : D} {ds : List D} (hx : a.fl = true) (hs : Sq O b ds) (hf : ds.all D.fl = true) (q : Q (.bl (!inV a.sv (ds.map D.sv))) O) : OW C X (compareOp .NotIn) a b Γ O Q := .mk fun ok σ H S v w rx ry k hk pins s v' w' I rv rw' => by
  obtain ⟨p, xs, rfl, sq, rs⟩ := hs.ok S.own ry
  obtain ⟨e1, f1⟩ := fl_rep hx rx
  obtain ⟨e2, f2⟩ := fls_rep hf rs
  refine op_notIn_seq pins s σ H v (.ref p) v' w' k I rv rw' ⟨p, xs, rfl, by rw [ok.K]; exact sq, f1, f2, ?_⟩
  simp only [if_true]
  rw [e1, e2]
  exact hk.at q S (rep_bl.mpr rfl)
end
end DL
namespace DL
open PySem PySem.Spec PyProof.Rows L2

/-! ### an own exception's __init__: super().__init__(..), then self.f = f .. -/
/-- the context of such an __init__: one captured name, __class__ -/
def xiCx (P : Program) (w : World) (K : PySem.W.Frag) (mg : Str → Option Value) (base : Heap) (N : List Str) (qual : Str) (scope : Scope) (f : Addr) (cd : Value) (cc : Addr) (A : Around) (outer : List Env) (s : Shared) (H : Hp) (E : XK) : Cx where
  prog := P
  w := w
  K := K
  mg := mg
  base := base
  A := A.deeper (PySem.W.ksEnv qual scope s.heap.objs.size f cd cc)
  N := N
  s_0 := s
  H_0 := H
  env := PySem.W.ksEnv qual scope s.heap.objs.size f cd cc
  outer := outer
  stack := PySem.W.ksEnv qual scope s.heap.objs.size f cd cc :: outer
  ex := []
  calm := true
  fn := fun _ => false
  pn := []
  xe := fun e s' => wpAny (model P w) (A.deeper (PySem.W.ksEnv qual scope s.heap.objs.size f cd cc)) (leaving (PySem.W.ksEnv qual scope s.heap.objs.size f cd cc) e) (fun _ s'' => L2.CX P w outer H s E e s'') (fun e' s'' => L2.CX P w outer H s E e' s'') s'
/-- its scope -/
structure XiS (ps : List Str) (sc : Scope) : Prop where
  kind : sc.kind = .function
  co : sc.isCoroutine = false
  gen : sc.isGenerator = false
  par : ∀ x ∈ ps, sc.names.lookup x = some .local
  nocell : ∀ y ∈ sc.names, y.2 ≠ .cell
  free : ∀ y ∈ sc.names, y.2 = .free → y.1 = "__class__"
  cls : sc.names.lookup ("__class__" : Str) = some .free
  sup : sc.names.lookup ("super" : Str) = some .globalImplicit
def xiSB (ps : List Str) (sc : Scope) : Bool :=
  decide (sc.kind = .function) && !sc.isCoroutine && !sc.isGenerator && ps.all (fun x => sc.names.lookup x == some .local) && sc.names.all (fun y => !decide (y.2 = .cell) && (!decide (y.2 = .free) || decide (y.1 = "__class__"))) &&
  (sc.names.lookup ("__class__" : Str) == some .free) && (sc.names.lookup ("super" : Str) == some .globalImplicit)
theorem xiS_of {ps : List Str} {sc : Scope} (h : xiSB ps sc = true) : XiS ps sc := by
  unfold xiSB at h
  simp only [Bool.and_eq_true, Bool.or_eq_true, Bool.not_eq_true', decide_eq_true_eq, decide_eq_false_iff_not, List.all_eq_true, beq_iff_eq] at h
  obtain ⟨⟨⟨⟨⟨⟨h1, h2⟩, h3⟩, h4⟩, h5⟩, h6⟩, h7⟩ := h
  exact ⟨h1, h2, h3, h4, fun y hy => (h5 y hy).1, fun y hy e => (h5 y hy).2.elim (fun z => absurd e z) id, h6, h7⟩
section
variable {P : Program} {w : World} {K : PySem.W.Frag} {mg : Str → Option Value} {base : Heap} {ps : List Str} {qual : Str} {scope : Scope} {f cc : Addr} {cd : Value} {A : Around} {outer : List Env} {s : Shared} {H : Hp} {E : XK}
theorem xi_start {vs : List V} {us : List Value} {h₁ : Heap} {tk : Nat} {v : Option Value} (S : XiS ps scope) (hd : A.handled = none) (e0 : Env0 P w K mg base A outer s H) (hcc : s.heap.IsCell cc v) (ncc : H cc = none) (hl : vs.length = ps.length)
    (hlk : ∀ (i : Nat) (x : Str) (v : V), ps[i]? = some x → vs[i]? = some v → ∃ u, RelV v u ∧ (ps.zip us).reverse.lookup x = some u)
    (hns : h₁.Ns s.heap.objs.size fun y => (ps.zip us).reverse.lookup y) (kp : ∀ b o, s.heap.get? b = some o → h₁.get? b = some o) :
    Inv (xiCx P w K mg base ps qual scope f cd cc A outer s H E) [] (vs.map some) H { s with heap := h₁, toks := tk } := by
  have noA : ∀ b : Addr, b ∉ (xiCx P w K mg base ps qual scope f cd cc A outer s H E).ex := fun b z => absurd (show b ∈ ([] : List Addr) from z) (by simp)
  have one : ∀ {y c}, (PySem.W.ksEnv qual scope s.heap.objs.size f cd cc).cells.lookup y = some c → y = "__class__" ∧ c = cc := fun {y c} e => by
    have e : ([(("__class__" : Str), cc)] : List (Str × Addr)).lookup y = some c := e
    simp only [List.lookup] at e
    split at e
    · rename_i q
      exact ⟨beq_iff_eq.mp q, (Option.some.inj e).symm⟩
    · cases e
  have celK : h₁.IsCell cc v := by
    obtain ⟨o, ho, hd⟩ := hcc
    exact ⟨o, kp _ _ ho, hd⟩
  refine ⟨⟨e0.mod, S.kind, rfl, rfl, Nat.le_refl _, fun y z c e1 e2 => (one e1).1.trans (one e2).1.symm, fun y hy => ?_, fun y c z _ => ?_, fun _ => hd, Around.frames_deeper e0.frames, .inr ⟨rfl, rfl⟩, fun b z => absurd z (noA b), e0.bs, e0.bsz, fun b _ _ => noA b,
      fun b z => absurd z (noA b), e0.funs, e0.frf⟩,
    rfl, e0.bare, Un.kept kp, ⟨_, hns, fun i y x e1 e2 e3 => ?_⟩, fun y c e => ?_, e0.hok.fresh (Nat.le_refl _), fun y c e => ?_, fun q hq => absurd (show q ∈ ([] : List (Addr × Obj)) ++ [] from hq) (by simp), e0.hok.kept kp, by simpa [xiCx] using hl⟩
  · have hy : scope.names.lookup y = some .cell ∨ scope.names.lookup y = some .free := hy
    rcases hy with hy | hy
    · exact absurd rfl (S.nocell _ (PySem.mem_of_lookup hy))
    · have q := S.free _ (PySem.mem_of_lookup hy) rfl
      have q : y = "__class__" := q
      subst q
      exact ⟨cc, rfl⟩
  · have z : false = true := z
    cases z
  · have e1 : ps[i]? = some y := e1
    have e2 : vs[i]? = some x := by
      rw [List.getElem?_map] at e2
      cases q : vs[i]? with
      | none => rw [q] at e2; simp at e2
      | some z => rw [q] at e2; simp at e2; rw [e2]
    obtain ⟨u, r, hu⟩ := hlk i y x e1 e2
    exact ⟨u, r, .inl ⟨S.par y (List.mem_of_getElem? e1), hu⟩⟩
  · obtain ⟨rfl, rfl⟩ := one e
    exact ⟨v, celK⟩
  · obtain ⟨rfl, rfl⟩ := one e
    exact ncc
end
section
variable {X : Cx} {pins : List (Addr × Obj)} {σ : St} {H : Hp} {s : Shared} {e C : Addr} {A : Around} {E : Value → Shared → Prop}
/-- the wrapper of ValueError.__init__, bound to the exception, called -/
theorem wrap_call {u : Addr} {us : List Value} {Q : Value → Shared → Prop} (T : OexC X.K C) (I : Inv X pins σ H s) (ea : H e = some (exo e C none)) (hu : s.heap.get? u = some (PySem.W.kxs_mw "ValueError.__init__" e)) (hl : us.length ≤ sizeLine)
    (h : ∀ s', Inv X pins σ H s' → Q .none s') : wpAny (model X.prog X.w) A (call (.ref u) us) Q E s := by
  obtain ⟨nm, q, N, bs, bm, sn, sub, ab, col, dd, k0, k1, k2, k3, k5, hC, hbm⟩ := T.cls
  obtain ⟨t1, ho⟩ := exo_at I.hok ea
  obtain ⟨hp, g, d, t, os⟩ := s
  refine wpAny_call (codeAny_of_tree ?_)
  show wpAny _ A.in1 (callAny (.ref u) ⟨us, []⟩) _ _ _
  unfold callAny
  refine wpAny_bind (wpAny_load hu ?_)
  dsimp only
  refine PySem.W.KFB.if_so (by decide) ?_
  refine wpAny_bind (PySem.W.check_bound_init F.excBase_ValueError.toExcCallFacts (I.kIn _ _ hC) ho rfl ?_)
  refine wpAny_bind (wpAny_pure (wpAny_pure ⟨plainId_quiet F.excBase_ValueError.init.plain _, codeAny_builtin F.excBase_ValueError.initEntry ?_⟩))
  refine PySem.W.exc_init_tree (cls := .ref C) (t0 := t1) (dv := none) (c2 := .none) (c3 := .none) (b4 := .bool false) ho hl fun h' k hx _ => ?_
  have J := I.write (t' := t) (x := e) (e := e) (o := exo e C none) (by rw [ea]; exact True.intro) (.inl rfl) k ⟨_, hx⟩ (exo_ok hx)
  have eu : upd H e (exo e C none) = H := by
    funext b
    by_cases hb : b = e
    · rw [hb, upd_same, ea]
    · rw [upd_ne hb]
  rw [eu] at J
  exact h _ J

/-- what the written part says of an exception class at C and of its __init__ at f (the cell cc holds the class) -/
structure XiC (P : Program) (K : PySem.W.Frag) (C f cc : Addr) : Prop where
  T : OexC K C
  iC : PySem.W.findIn K (.ref C) "__init__" = some (some (.ref f))
  tI : PySem.W.typeIn K (.ref f) = some (.type "function")
  cell : ∃ cl cld csl, K.lookup cc = some ⟨cl, cld, .cell (some (.ref C)), csl⟩
  sup : PySem.W.ks_superIn K C C "__init__" = some (some (.builtin "ValueError.__init__"))
  sub : PySem.W.subIn K (.ref C) (.type "ValueError") = some true
  slf : PySem.W.mroIn K C (.ref C) = some true
  opq : PySem.W.nsIn K cStatics "thirdparty.any" = some none
  nsu : PySem.W.nsIn K mainGlobals "super" = some none
  top : (P.main.scope.names.lookup ("super" : Str)).isSome = false
theorem super_init {body : List Stmt} {q : Str} {scope : Scope} {f cc cda L : Addr} {oc ccl : Value} {od cdd : Option Addr} {osl ccs : Array (Option Value)} {fd : FuncData} {vs : Array Value} {file : Str} {tf : Tok} {ps : List Str} {a1 : Expr} {args : List Expr} {p0 p1 p2 p3 : Pos} {ta : TA} {ar : Arg} {Q : Value → Shared → Prop}
    (Z : XiC X.prog X.K C f cc) (S : XiS ps scope) (henv : X.env = PySem.W.ksEnv q scope L f (.ref cda) cc) (hf : X.K.lookup f = some ⟨oc, od, .func fd, osl⟩) (hp : (fd.params.posonlyargs ++ fd.params.args).head? = some ar) (har : ar.arg = ("self" : Str)) (hps : ("self" : Str) ∈ ps)
    (hcode : X.K.lookup cda = some ⟨ccl, cdd, .fields vs, ccs⟩) (hvs : vs[2]? = some (.str file tf)) (hfile : ((X.prog.main.file : Str) == file) = true)
    (I : Inv X pins σ H s) (ea : H e = some (exo e C none)) (hN : X.N[0]? = some ("self" : Str)) (hσ : σ[0]? = some (some (.ref e))) (ha : PA X (a1 :: args) ta) (h : ta σ H fun ws H' => ws.length ≤ 1000 ∧ H' e = some (exo e C none) ∧ ∀ s', Inv X pins σ H' s' → Q .none s')
    {pl : Sem Bool} (hnode : eval (.Call (.Attribute (.Call (.Name "super" p0) [] [] p1) "__init__" p2) (a1 :: args) [] p3) X.env = (do
      let ov ← attributeBase (.Call (.Name "super" p0) [] [] p1) "__init__" X.env (eval (.Call (.Name "super" p0) [] [] p1) X.env)
      standAt p2.atName
      let (f, first) ← holding [ov] (getMethod ov "__init__" pl)
      callWith p3 f first (backTo p3 (starEach (a1 :: args) X.env)) []))
    (he : ∀ env, starEach (a1 :: args) env = (false, eval a1 env) :: starEach args env) (hpl : ∀ env, (backTo p3 (starEach args env)).any (·.1) = false) (hxe : E = X.xe) (hA : A = X.A) :
    _root_.PySem.wpAt (model X.prog X.w) A (.func body X.env) (eval (.Call (.Attribute (.Call (.Name "super" p0) [] [] p1) "__init__" p2) (a1 :: args) [] p3) X.env) Q E s := by
  subst hxe
  subst hA
  have hk : X.env.scope.kind = .function := I.ok.kind
  have hsc : X.env.scope = scope := by rw [henv]
  have hks : X.env.kindOf "super" = some .globalImplicit := by show X.env.scope.names.lookup _ = _; rw [hsc]; exact S.sup
  have hkc : X.env.kindOf "__class__" = some .free := by show X.env.scope.names.lookup _ = _; rw [hsc]; exact S.cls
  have hka : X.env.kindOf "self" = some .local := by show X.env.scope.names.lookup _ = _; rw [hsc]; exact S.par _ hps
  obtain ⟨cl, cld, csl, hcell⟩ := Z.cell
  obtain ⟨nm, qn, N, bs, bm, sn, sub, ab, col, dd, k0, k1, k2, k3, k5, hC, hbm⟩ := Z.T.cls
  have hcl : PySem.W.clsIn X.K C = some { name := nm, bases := bs, mro := .ref C :: bm, ns := N, qualname := qn, hasDict := true, slotNames := sn, subclasses := sub, abstract := ab, collection := col, hasDel := false } := by unfold PySem.W.clsIn; rw [hC] <;> rfl
  obtain ⟨m, hns, hlk⟩ := I.loc
  have hself : m "self" = some (.ref e) := by
    obtain ⟨u, r, q⟩ := hlk 0 "self" (.ref e) hN hσ (.inl hka)
    obtain rfl : u = .ref e := r
    rcases q with ⟨_, q⟩ | ⟨q, _⟩
    · exact q
    · have hka' := hka
      rcases q with q | q <;> rw [hka'] at q <;> cases q
  have Xk := I.kIn
  have nsG := I.mod.glob.keeps I.bk
  obtain ⟨mb, nb, hb⟩ := I.mod.blt
  have nsB := nb.keeps I.bk
  have msu : X.mg "super" = none := PySem.W.mg_none_of Xk nsG Z.nsu
  have hgl : X.env.globals = mainGlobals := I.ok.glob
  have hbl : X.env.builtins = builtinsNs := I.ok.blt
  refine PySem.ks_wpAt_MethodCall (c := .func body X.env) (pl := pl) ?_ hnode
  refine PySem.ks_wpAt_super_base (f := f) (cc := cda) (ar := ar) hks hkc (by decide) (by rw [henv]) (Xk _ _ hf) rfl hp (by rw [henv]) (Xk _ _ hcode) rfl hvs hfile Z.top ?_
  refine PySem.W.ks_loadName_global hk hks (PySem.Calls.loadGlobal_builtin (by rw [hgl]; exact nsG) msu (by rw [hbl]; exact nsB) ((hb _ (by decide +kernel)).trans bt_super) ⟨rfl, ?_⟩)
  refine wpAny_loadName_free hk hkc (c := cc) (by rw [henv]; rfl) ⟨_, Xk _ _ hcell, rfl⟩ ?_
  rw [har]
  refine wpAny_loadName_local hk hka hns hself ?_
  obtain ⟨t1, ho⟩ := exo_at I.hok ea
  obtain ⟨hp, g, d, t, os⟩ := s
  refine PySem.ks_wpAny_isType_cls (Xk _ _ hC) rfl ⟨rfl, ?_⟩
  refine PySem.ks_wpAny_call_super (Xk _ _ hC) rfl ho rfl (fun c z => by cases z) (PySem.W.looks_mroIn Xk Z.slf) (fun h' eso k => ?_)
  have I1 : Inv X pins σ H ⟨h', g, d, t, os⟩ := I.kept (t' := t) k
  have X1 := I1.kIn
  have ho1 := k _ _ ho
  have IA : PySem.W.InstAt h' e _ C none := ⟨ho1, rfl, rfl, trivial⟩
  have hsup := Z.sup
  unfold PySem.W.ks_superIn at hsup
  rw [hcl] at hsup
  refine PySem.W.kxs_getMethod PySem.W.kxs_ValueError eso (PySem.W.looks_opaque X1 Z.opq) (l₀ := .ref C :: bm) (fun A Q E s k q => wpAny_bind ((PySem.W.looks_clsIn X1 hcl) A _ E s k (wpAny_pure q))) rfl X1 hsup
    (IA.type.andThen (PySem.W.looks_subIn X1 Z.sub)) (PySem.W.ks_ne X1 IA hcl) (by decide) ?_
  have k2 : ∀ b o, h'.get? b = some o → (h'.push (PySem.W.kxs_mw "ValueError.__init__" e)).get? b = some o := fun b o z => Heap.get?_push_of_some _ z
  have I2 := ClX.pin_new (t' := t + 1) (a := h'.objs.size) (o := PySem.W.kxs_mw "ValueError.__init__" e) I1 k2 (Nat.le_refl _) (Heap.get?_push_size h' rfl) (fun v z => by cases z)
  show wpAny _ _ (callWith p3 (.ref h'.objs.size) [] (backTo p3 (starEach (a1 :: args) X.env)) []) _ _ _
  have hst := he X.env
  have run := ha.run p3 _ _ σ H _ I2 h
  rw [hst] at run ⊢
  refine PySem.W.kxs_callWith (i := "ValueError.__init__") (x := e) (by show (false || (backTo p3 (starEach args X.env)).any (·.1)) = false; rw [hpl]; rfl) ?_
  refine Calls.evalArgs_plain (thn run fun us s2 ⟨ws, H', I3, rw_, hl, ea2, q⟩ => ?_)
  refine ⟨ClX.pin_at I3, ?_⟩
  refine wrap_call Z.T (ClX.unpin I3) ea2 (ClX.pin_at I3) ?_ q
  have := Paired.length rw_
  simp only [List.nil_append]
  rw [← this, sizeLine_eq]
  omega
end
section
variable {P : Program} {w : World} {K : PySem.W.Frag} {mg : Str → Option Value} {base : Heap}
/-- the text of such an __init__ -/
structure XiF (P : Program) (K : PySem.W.Frag) (ps : List Str) (qual : Str) (st : Stmt) (f cc : Addr) (fd : FuncData) : Prop where
  ex : ∃ (oc : Value) (od : Option Addr) (kV doc pm : Value) (an : Option Addr) (cda : Addr) (ct : Value) (osl : Array (Option Value)) (ccl : Value) (cdd : Option Addr) (ccs : Array (Option Value)) (vs : Array Value) (file : Str) (tf : Tok),
    fd = PySem.W.ksFn "__init__" qual (defArgs st) (defBody st) (defScope st) .none kV doc pm an (.ref cda) ct cc ∧ K.lookup f = some ⟨oc, od, .func fd, osl⟩ ∧ PySem.W.codeIn K (.ref cda) qual = true ∧
      K.lookup cda = some ⟨ccl, cdd, .fields vs, ccs⟩ ∧ vs[2]? = some (.str file tf) ∧ ((P.main.file : Str) == file) = true
  S : XiS ps (defScope st)
  ar : ∃ ar : Arg, ((defArgs st).posonlyargs ++ (defArgs st).args).head? = some ar ∧ ar.arg = ("self" : Str)
/-- self.f = f for the fields -/
def xiEnd (e C : Addr) (H : Hp) (Q : VK) (f1 : Str) (y : V) : Option (Str × V) → Prop
  | none => ∀ dx, H dx = none → dx ≠ e → Q .non (upd (upd H dx (exd dx [(f1, y)])) e (exo e C (some dx)))
  | some (f2, z) => ∀ dx, H dx = none → dx ≠ e → Q .non (upd (upd (upd H dx (exd dx [(f1, y)])) e (exo e C (some dx))) dx (exd dx [(f2, z), (f1, y)]))
def spXi1 (C : Addr) (f1 : Str) : Sp := fun vs H Q _ => ∃ (e : Addr) (y : V), vs = [.ref e, y] ∧ H e = some (exo e C none) ∧ xiEnd e C H Q f1 y none
def spXi2 (C : Addr) (f1 f2 : Str) : Sp := fun vs H Q _ => ∃ (e : Addr) (y z : V), vs = [.ref e, y, z] ∧ H e = some (exo e C none) ∧ xiEnd e C H Q f1 y (some (f2, z))
def XiAt (P : Program) (K : PySem.W.Frag) (st : Stmt) (f : Addr) (fd : FuncData) (cda : Addr) : Prop := ∃ (oc : Value) (od : Option Addr) (osl : Array (Option Value)) (ccl : Value) (cdd : Option Addr) (ccs : Array (Option Value)) (vs : Array Value) (file : Str) (tf : Tok),
  K.lookup f = some ⟨oc, od, .func fd, osl⟩ ∧ K.lookup cda = some ⟨ccl, cdd, .fields vs, ccs⟩ ∧ vs[2]? = some (.str file tf) ∧ ((P.main.file : Str) == file) = true ∧ fd.params = defArgs st
/-- the def, from its body's walk -/
theorem xi_run {ps : List Str} {qual : Str} {st : Stmt} {C f cc : Addr} {fd : FuncData} {k : Nat} {s1 : Stmt} {rest : List Stmt} (F : XiF P K ps qual st f cc fd) (Z : XiC P K C f cc) (hbody : defBody st = s1 :: rest)
    {A : Around} {outer : List Env} {s : Shared} {H : Hp} {args : Args} {us : List Value} {vs : List V} {Q : VK} {E : XK} (hr : Room (k + 1) A) (e0 : Env0 P w K mg base A outer s H) (hb : BindsTo s fd args (ps.zip us)) (r : Vals vs us) (hl : vs.length = ps.length)
    (hlk : ∀ (i : Nat) (x : Str) (v : V), ps[i]? = some x → vs[i]? = some v → ∃ u, RelV v u ∧ (ps.zip us).reverse.lookup x = some u)
    (h : ∀ (cda : Addr) (X : Cx), XiAt P K st f fd cda → X = xiCx P w K mg base ps qual (defScope st) f (.ref cda) cc A outer s H E → ∀ s1', Inv X [] (vs.map some) H s1' →
      _root_.PySem.wpAt (model P w) X.A (.func (s1 :: rest) X.env) (exec s1 X.env) (fun fl s' => fl = .next ∧ SWs X rest { nx := fun _ H' => Q .non H', rt := Q } (vs.map some) H ∧ Inv X [] (vs.map some) H s') X.xe s1') :
    codeAny (model P w) A (.call (.ref f) args) (CR (L2.CX P w) outer P w H s Q E) s := by
  obtain ⟨oc, od, kV, doc, pm, an, cda, ct, osl, ccl, cdd, ccs, vs', file, tf, rfl, hf, hcd, hcode, hvs, hfile⟩ := F.ex
  have S := F.S
  have KX : K.In s.heap := e0.mod.kin.keeps fun b o e => (e0.bs b o e).1
  have lim : s.heap.NoLimit := e0.mod.nolimit.keeps fun b o e => (e0.bs b o e).1
  obtain ⟨cl, cld, csl, hcell⟩ := Z.cell
  have hcc : s.heap.IsCell cc (some (.ref C)) := ⟨_, KX _ _ hcell, rfl⟩
  have ncc : H cc = none := (e0.bs cc _ (e0.mod.kin _ _ hcell)).2
  refine PySem.ks_codeAny_call_defAt (body := s1 :: rest) (binds := ps.zip us) hr.depth (KX _ _ hf) rfl lim (PySem.W.codeRec_of KX hcd) (by show FuncBody.stmts (defBody st) = _; rw [hbody]) hb S.nocell (fun y hy => S.par _ (List.of_mem_zip hy).1) (fun h₀ hns kp => ?_) S.co S.gen S.kind
  have I := xi_start (E := E) (f := f) (cd := .ref cda) (qual := qual) (tk := s.toks + (ps.zip us).length) S hr.hd e0 hcc ncc hl hlk hns kp
  have run := h cda _ ⟨oc, od, osl, ccl, cdd, ccs, vs', file, tf, hf, hcode, hvs, hfile, rfl⟩ rfl _ I
  show _root_.PySem.wpAt (model P w) (A.deeper (PySem.W.ksEnv qual (defScope st) s.heap.objs.size f (.ref cda) cc)) (.func (s1 :: rest) (PySem.W.ksEnv qual (defScope st) s.heap.objs.size f (.ref cda) cc)) (execs (s1 :: rest) (PySem.W.ksEnv qual (defScope st) s.heap.objs.size f (.ref cda) cc)) _ _ _
  refine PySem.ks_wpAt_execs_cons (PySem.ks_wpAt_mono run (fun fl s' hs => ?_) fun e s' hs => hs)
  obtain ⟨rfl, hsw, J⟩ := hs
  refine wpAt_of_wpAny (wpAny_mono (hsw [] s' J) (fun fl s2 hs => ?_) fun e s2 hs => hs)
  have fin : ∀ {σ' : L2.St} {H' : Hp} {v : V} {u : Value}, Inv (xiCx P w K mg base ps qual (defScope st) f (.ref cda) cc A outer s H E) [] σ' H' s2 → L2.RelV v u → Q v H' → CE outer P w H s Q u s2 :=
    fun {σ' H' v u} J rv q => ⟨v, H', J.os, J.bare, J.base, J.hok, rv, q⟩
  match fl, hs with
  | .ret u, hs =>
    obtain ⟨v, σ', H', J, rv, q⟩ := hs
    exact fin J rv q
  | .next, hs =>
    obtain ⟨σ', H', J, q⟩ := hs
    exact fin (v := V.non) (u := Value.none) J rfl q
  | .brk, hs =>
    obtain ⟨_, _, _, q⟩ := hs
    exact False.elim q
  | .cont, hs =>
    obtain ⟨_, _, _, q⟩ := hs
    exact False.elim q

theorem lk2 {a b : Str} {u v : Value} (h : a ≠ b) {i : Nat} {x : Str} {y z w : V} (r : Vals [y, z] [u, v]) (h1 : ([a, b] : List Str)[i]? = some x) (h2 : ([y, z] : List V)[i]? = some w) : ∃ q, RelV w q ∧ ([a, b].zip [u, v]).reverse.lookup x = some q := by
  cases r with
  | cons r1 r =>
    cases r with
    | cons r2 r =>
      match i, h1, h2 with
      | 0, h1, h2 =>
        simp at h1 h2
        subst h1; subst h2
        have e : (a == b) = false := by simpa using h
        exact ⟨u, r1, by simp [List.lookup, e]⟩
      | 1, h1, h2 =>
        simp at h1 h2
        subst h1; subst h2
        exact ⟨v, r2, by simp [List.lookup]⟩
      | n + 2, h1, h2 => simp at h1
theorem lk3 {a b c : Str} {u v t : Value} (h : a ≠ b) (h' : a ≠ c) (h'' : b ≠ c) {i : Nat} {x : Str} {y z w o : V} (r : Vals [y, z, o] [u, v, t]) (h1 : ([a, b, c] : List Str)[i]? = some x) (h2 : ([y, z, o] : List V)[i]? = some w) : ∃ q, RelV w q ∧ ([a, b, c].zip [u, v, t]).reverse.lookup x = some q := by
  cases r with
  | cons r1 r =>
    cases r with
    | cons r2 r =>
      cases r with
      | cons r3 r =>
        have e : (a == b) = false := by simpa using h
        have e' : (a == c) = false := by simpa using h'
        have e'' : (b == c) = false := by simpa using h''
        match i, h1, h2 with
        | 0, h1, h2 =>
          simp at h1 h2
          subst h1; subst h2
          exact ⟨u, r1, by simp [List.lookup, e, e']⟩
        | 1, h1, h2 =>
          simp at h1 h2
          subst h1; subst h2
          exact ⟨v, r2, by simp [List.lookup, e'']⟩
        | 2, h1, h2 =>
          simp at h1 h2
          subst h1; subst h2
          exact ⟨t, r3, by simp [List.lookup]⟩
        | n + 3, h1, h2 => simp at h1
def XiNode (args : List Expr) (p0 p1 p2 p3 : Pos) : Prop := ∃ pl : Env → Sem Bool, ∀ env, eval (.Call (.Attribute (.Call (.Name "super" p0) [] [] p1) "__init__" p2) args [] p3) env = (do
      let ov ← attributeBase (.Call (.Name "super" p0) [] [] p1) "__init__" env (eval (.Call (.Name "super" p0) [] [] p1) env)
      standAt p2.atName
      let (f, first) ← holding [ov] (getMethod ov "__init__" (pl env))
      callWith p3 f first (backTo p3 (starEach args env)) [])
theorem xi_ok1 {st : Stmt} {qual : Str} {C f cc : Addr} {fd : FuncData} {k : Nat} {a f1 : Str} {p0 p1 p2 p3 p4 q0 q1 q2 q3 q4 : Pos} (F : XiF P K ["self", a] qual st f cc fd) (Z : XiC P K C f cc)
    (hbody : defBody st = [.Expr (.Call (.Attribute (.Call (.Name "super" p0) [] [] p1) "__init__" p2) [.Name a q0] [] p3) p4, .Assign [.Attribute (.Name "self" q1) f1 q2] (.Name a q3) q4])
    (hn : XiNode [.Name a q0] p0 p1 p2 p3) (hf : PySem.W.findIn K (.ref C) f1 = some none) (ha : ("self" : Str) ≠ a) (hd : (a == ("__debug__" : Str)) = false) (hcd : (a == ("__classdict__" : Str)) = false) :
    FnOk P w K mg base (L2.CX P w) (k + 1) f fd ["self", a] (spXi1 C f1) := by
  refine ⟨fun vs H Q E h => ?_, fun A outer s H args us vs Q E hr e0 hb r h => ?_⟩
  · obtain ⟨e, y, rfl, _⟩ := h
    rfl
  obtain ⟨e, y, rfl, ea, hq⟩ := h
  have r0 := r
  cases r with
  | cons r1 r =>
    cases r with
    | cons r2 r =>
      cases r
      refine xi_run F Z hbody hr e0 hb r0 rfl (fun i x v h1 h2 => lk2 ha r0 h1 h2) fun cda X hat eX s1 I => ?_
      obtain ⟨oc, od, osl, ccl, cdd, ccs, vs', file, tf, hfl, hcode, hvs, hfile, epar⟩ := hat
      obtain ⟨ar, har, har2⟩ := F.ar
      have eK : X.K = K := by rw [eX]; rfl
      have eP : X.prog = P := by rw [eX]; rfl
      have ew : X.w = w := by rw [eX]; rfl
      have eN : X.N = [("self" : Str), a] := by rw [eX]; rfl
      have esc : X.env.scope = defScope st := by rw [eX]; rfl
      have Z' : XiC X.prog X.K C f cc := by rw [eK, eP]; exact Z
      have v0 : PE X (.Name "self" q1) (tVar 0) := pe_var (i := 0) (by rw [eN]; rfl) (.inl (by rw [esc]; exact F.S.par _ (by simp))) (by decide) (by decide)
      have v1 : PE X (.Name a q0) (tVar 1) := pe_var (i := 1) (by rw [eN]; rfl) (.inl (by rw [esc]; exact F.S.par _ (by simp))) hd hcd
      have v2 : PE X (.Name a q3) (tVar 1) := pe_var (i := 1) (by rw [eN]; rfl) (.inl (by rw [esc]; exact F.S.par _ (by simp))) hd hcd
      have hin : interactive X.env = false := by unfold interactive; rw [esc, F.S.kind]; rfl
      rw [← eP, ← ew]
      obtain ⟨pl, hnode⟩ := hn
      refine PySem.ks_wpAt_Expr_any ?_ hin rfl
      refine super_init (fd := fd) (ar := ar) (C := C) (H := H) (e := e) Z' F.S (by rw [eX]; rfl) (by rw [eK]; exact hfl) (by rw [epar]; exact har) har2 (by simp) (by rw [eK]; exact hcode) hvs (by rw [eP]; exact hfile) I ea (by rw [eN]; rfl) rfl (pa_cons v1 pa_nil) ?_ (pl := pl X.env) (hnode _) (fun _ => rfl) (fun _ => rfl) rfl rfl
      refine ⟨y, rfl, by simp, ea, fun s' J => ⟨rfl, ?_, J⟩⟩
      refine sws_of (pss_one (ps_ost v0 v2 rfl)) ?_
      refine ⟨y, rfl, .ref e, rfl, e, C, rfl, by rw [eK]; exact Z.T, by rw [eK]; exact hf, .inl ⟨ea, hq⟩⟩
theorem xi_ok2 {st : Stmt} {qual : Str} {C f cc : Addr} {fd : FuncData} {k : Nat} {a a2 f1 f2 : Str} {p0 p1 p2 p3 p4 q0 q1 q2 q3 q4 q5 q6 q7 q8 q9 : Pos} (F : XiF P K ["self", a, a2] qual st f cc fd) (Z : XiC P K C f cc)
    (hbody : defBody st = [.Expr (.Call (.Attribute (.Call (.Name "super" p0) [] [] p1) "__init__" p2) [.Name a q0, .Name a2 q9] [] p3) p4, .Assign [.Attribute (.Name "self" q1) f1 q2] (.Name a q3) q4, .Assign [.Attribute (.Name "self" q5) f2 q6] (.Name a2 q7) q8])
    (hn : XiNode [.Name a q0, .Name a2 q9] p0 p1 p2 p3) (hf : PySem.W.findIn K (.ref C) f1 = some none) (hf2 : PySem.W.findIn K (.ref C) f2 = some none) (ha : ("self" : Str) ≠ a) (ha2 : ("self" : Str) ≠ a2) (ha3 : a ≠ a2) (hd : (a == ("__debug__" : Str)) = false) (hcd : (a == ("__classdict__" : Str)) = false) (hd2 : (a2 == ("__debug__" : Str)) = false) (hcd2 : (a2 == ("__classdict__" : Str)) = false) :
    FnOk P w K mg base (L2.CX P w) (k + 1) f fd ["self", a, a2] (spXi2 C f1 f2) := by
  refine ⟨fun vs H Q E h => ?_, fun A outer s H args us vs Q E hr e0 hb r h => ?_⟩
  · obtain ⟨e, y, z, rfl, _⟩ := h
    rfl
  obtain ⟨e, y, z, rfl, ea, hq⟩ := h
  have r0 := r
  cases r with
  | cons r1 r =>
    cases r with
    | cons r2 r =>
     cases r with
     | cons r3 r =>
      cases r
      refine xi_run F Z hbody hr e0 hb r0 rfl (fun i x v h1 h2 => lk3 ha ha2 ha3 r0 h1 h2) fun cda X hat eX s1 I => ?_
      obtain ⟨oc, od, osl, ccl, cdd, ccs, vs', file, tf, hfl, hcode, hvs, hfile, epar⟩ := hat
      obtain ⟨ar, har, har2⟩ := F.ar
      have eK : X.K = K := by rw [eX]; rfl
      have eP : X.prog = P := by rw [eX]; rfl
      have ew : X.w = w := by rw [eX]; rfl
      have eN : X.N = [("self" : Str), a, a2] := by rw [eX]; rfl
      have esc : X.env.scope = defScope st := by rw [eX]; rfl
      have Z' : XiC X.prog X.K C f cc := by rw [eK, eP]; exact Z
      have v0 : PE X (.Name "self" q1) (tVar 0) := pe_var (i := 0) (by rw [eN]; rfl) (.inl (by rw [esc]; exact F.S.par _ (by simp))) (by decide) (by decide)
      have v1 : PE X (.Name a q0) (tVar 1) := pe_var (i := 1) (by rw [eN]; rfl) (.inl (by rw [esc]; exact F.S.par _ (by simp))) hd hcd
      have v2 : PE X (.Name a q3) (tVar 1) := pe_var (i := 1) (by rw [eN]; rfl) (.inl (by rw [esc]; exact F.S.par _ (by simp))) hd hcd
      have w0 : PE X (.Name "self" q5) (tVar 0) := pe_var (i := 0) (by rw [eN]; rfl) (.inl (by rw [esc]; exact F.S.par _ (by simp))) (by decide) (by decide)
      have w1 : PE X (.Name a2 q9) (tVar 2) := pe_var (i := 2) (by rw [eN]; rfl) (.inl (by rw [esc]; exact F.S.par _ (by simp))) hd2 hcd2
      have w2 : PE X (.Name a2 q7) (tVar 2) := pe_var (i := 2) (by rw [eN]; rfl) (.inl (by rw [esc]; exact F.S.par _ (by simp))) hd2 hcd2
      have hin : interactive X.env = false := by unfold interactive; rw [esc, F.S.kind]; rfl
      rw [← eP, ← ew]
      obtain ⟨pl, hnode⟩ := hn
      refine PySem.ks_wpAt_Expr_any ?_ hin rfl
      refine super_init (fd := fd) (ar := ar) (C := C) (H := H) (e := e) Z' F.S (by rw [eX]; rfl) (by rw [eK]; exact hfl) (by rw [epar]; exact har) har2 (by simp) (by rw [eK]; exact hcode) hvs (by rw [eP]; exact hfile) I ea (by rw [eN]; rfl) rfl (pa_cons v1 (pa_cons w1 pa_nil)) ?_ (pl := pl X.env) (hnode _) (fun _ => rfl) (fun _ => rfl) rfl rfl
      refine ⟨y, rfl, z, rfl, by simp, ea, fun s' J => ⟨rfl, ?_, J⟩⟩
      refine sws_of (pss_cons (ps_ost v0 v2 rfl) (pss_one (ps_ost w0 w2 rfl))) ?_
      refine ⟨y, rfl, .ref e, rfl, e, C, rfl, by rw [eK]; exact Z.T, by rw [eK]; exact hf, .inl ⟨ea, fun dx h1 h2 => ?_⟩⟩
      refine ⟨z, rfl, .ref e, rfl, e, C, rfl, by rw [eK]; exact Z.T, by rw [eK]; exact hf2, .inr ⟨dx, _, upd_same, by rw [upd_ne h2, upd_same], by simp, hq dx h1 h2⟩⟩
end
end DL
namespace DL
open PySem PySem.Spec PyProof.Rows L2

/-! ### own exceptions, made and raised -/
/-- x is an exception class of the module; fs: its fields, in the order of its __init__'s parameters -/
structure EntX (M : Md) (x : Str) (Cl : Addr) (fs : List Str) : Prop where
  hm : M.mg x = some (.ref Cl)
  T : OexC M.K Cl
  ex : ∃ (fI : Addr) (fd : FuncData) (ps : List Str) (sp : Sp), PySem.W.findIn M.K (.ref Cl) "__init__" = some (some (.ref fI)) ∧ PySem.W.typeIn M.K (.ref fI) = some (.type "function") ∧ L2.Binds M.K fd ps [] ∧
    FnOk M.P M.w M.K M.mg M.base (L2.CX M.P M.w) 1 fI fd ps sp ∧
    ∀ (e : Addr) (ys : List V) (H : Hp) (Q : VK) (E : XK), ys.length = fs.length → H e = some (exo e Cl none) →
      (∀ dx H2, H dx = none → dx ≠ e → H2 e = some (exo e Cl (some dx)) → H2 dx = some (exd dx (fs.zip ys).reverse) → (∀ b, b ≠ e → b ≠ dx → H2 b = H b) → Q .non H2) → sp (.ref e :: ys) H Q E
section
variable {K : PySem.W.Frag} {N : Addr → Prop} {H : Hp}
theorem repF_app : ∀ {ds es : List (Str × D)} {xs ys : List (Str × V)}, RepF K N H ds xs → RepF K N H es ys → RepF K N H (ds ++ es) (xs ++ ys)
  | [], _, _, _, h, h' => by simp only [RepF] at h; subst h; exact h'
  | (k, d) :: ds, es, _, _, h, h' => by
    simp only [RepF] at h
    obtain ⟨x, r, rfl, a, h⟩ := h
    simp only [List.cons_append, RepF]
    exact ⟨x, _, rfl, a, repF_app h h'⟩
theorem repF_zip : ∀ {fs : List Str} {ds : List D} {vs : List V}, Reps K N H ds vs → RepF K N H (fs.zip ds).reverse (fs.zip vs).reverse
  | [], _, _, _ => by simp [RepF]
  | _ :: _, [], _, h => by rw [reps_nil] at h; subst h; simp [RepF]
  | f :: fs, d :: ds, _, h => by
    rw [reps_cons] at h
    obtain ⟨x, r, rfl, a, h⟩ := h
    simp only [List.zip_cons_cons, List.reverse_cons]
    refine repF_app (repF_zip h) ?_
    simp only [RepF]
    exact ⟨x, [], rfl, a, rfl⟩
end
section
variable {C : CD} {X : Cx} {Γ Γ' : En} {O : Own} {Q : D → Own → Prop} {N : De} {pos p rpos : Pos} {e : Expr} {es : List Expr} {x : Str} {Cl : Addr} {fs : List Str}
theorem ws_raise (E : EntX C.M x Cl fs) (hk : 2 ≤ C.k) (g : x ∈ C.Gs) (he : ∀ env, starEach (e :: es) env = (false, eval e env) :: starEach es env) (hpl : ∀ env, (backTo pos (starEach es env)).any (·.1) = false) (hfs : fs.length ≤ 1000)
    (h : WA C X (e :: es) Γ O fun ds O1 => ds.length = fs.length ∧ C.ED ⟨Cl, (fs.zip ds).reverse⟩ Γ O1) : WS C X (.Raise (some (.Call (.Name x p) (e :: es) [] pos)) none rpos) Γ O N := .mk fun ok σ H S D hD => by
  obtain ⟨fI, fd, ps, sp, iC, tI, hb, F1, hsp⟩ := E.ex
  have gx := ok.gl x g
  have F1' : FnOk X.prog X.w X.K X.mg X.base (L2.CX X.prog X.w) 1 fI fd ps sp := by rw [ok.prog, ok.w, ok.K, ok.mg, ok.base]; exact F1
  have mk := pmk_oex (X := X) (x := x) (dvs := []) (p := p) (pos := pos) (by rw [ok.K]; exact E.T) (by rw [ok.K]; exact iC) (by rw [ok.K]; exact tI) F1' (ok.room.mono hk) (by rw [ok.K]; exact hb) .nil
    (fun pins σ H s e s' I ⟨_, _, _, _, _, _, _, _, _, _, _, _, z⟩ => z.elim) gx.1 (by rw [ok.mg]; exact E.hm) (pa_aw (es := e :: es)) gx.2 (he _) (hpl _)
  refine sw_of (ps_raise ok.calm ok.tk mk) ?_
  refine h ok σ H S _ fun vs H1 ds O1 q1 S1 l1 r1 => ?_
  obtain ⟨hl, q⟩ := q1
  refine ⟨by rw [reps_len r1, hl]; exact hfs, fun a na => ?_⟩
  rw [List.append_nil]
  refine hsp a vs _ _ _ (by rw [reps_len r1, hl]) upd_same fun dx H2 n1 n2 e1 e2 e3 => ⟨rfl, dx, _, e1, e2, ?_, ?_⟩
  · rw [upd_ne n2] at n1; exact n1
  have nd : H1 dx = none := by rw [upd_ne n2] at n1; exact n1
  have eH : upd (del H2 a) dx (.xd (fs.zip vs).reverse) = upd H1 dx (.xd (fs.zip vs).reverse) := by
    funext b
    by_cases hb : b = dx
    · subst hb; rw [upd_same, upd_same]
    · rw [upd_ne hb, upd_ne hb]
      by_cases hba : b = a
      · subst hba; rw [del_same, na]
      · rw [del_ne hba, e3 b hba hb, upd_ne hba]
  rw [eH]
  have l := Le.new_obj (o := .xd (fs.zip vs).reverse) O1 nd
  have w := ownOk_new (o := .xd (fs.zip vs).reverse) S1.own nd
  exact ⟨_, Γ, O1, q, S1.step l w, rfl, .inr ⟨dx, _, rfl, S1.own.nothas nd, upd_same, repF_zip (Reps.le l r1)⟩⟩
end
end DL
namespace DL
open PySem PySem.Spec PyProof.Rows L2

/-! ### try: .. except x as n: y = n -/
section
variable {X : Cx} {pins : List (Addr × Obj)} {σ : St} {H : Hp} {s : Shared}
/-- an untracked exception is tracked from now on -/
theorem track_exc {a C dd : Addr} {oe : Obj} {vs : Array Value} (I : Inv X pins σ H s) (ha : s.heap.get? a = some oe) (na : H a = none) (n0 : X.s_0.heap.get? a = none) (nL : a ≠ X.env.locals) (np : ∀ p ∈ X.pn ++ pins, p.1 ≠ a)
    (h1 : oe.cls = .ref C) (h2 : oe.dict = some dd) (h3 : oe.data = .fields vs) : Inv X pins σ (upd H a (excH a C dd)) s := by
  have nc : ∀ y c, X.env.cells.lookup y = some c → c ≠ a := fun y c e z => by
    subst z
    obtain ⟨v, o, ho, hd⟩ := I.cell y c e
    rw [ha] at ho; cases ho
    rw [h3] at hd; cases hd
  have B := I.base
  refine ⟨I.ok, I.os, I.bare, ⟨B.keep, B.slot, fun b o e n hx => ?_, B.there, fun b xs e => ?_, fun b o u e => ?_, fun b ps e => ?_⟩, I.loc, I.cell, ?_, fun y c e => ?_, fun p hp => ?_, fun b u e => ?_, I.len⟩
  · have hb : b ≠ a := fun z => by subst z; rw [n0] at e; cases e
    rw [upd_ne hb]
    exact B.free b o e n hx
  · have q := B.tups b xs e
    rw [upd_ne (ne_of_none q na)]; exact q
  · have q := B.frzs b o u e
    rw [upd_ne (ne_of_none q na)]; exact q
  · obtain ⟨more, q⟩ := B.tbls b ps e
    exact ⟨more, by rw [upd_ne (ne_of_none q na)]; exact q⟩
  · rw [upd_ne (Ne.symm nL)]; exact I.free
  · rw [upd_ne (nc y c e)]; exact I.freeC y c e
  · obtain ⟨e1, e2, e3⟩ := I.pin p hp
    exact ⟨e1, by rw [upd_ne (np p hp)]; exact e2, e3⟩
  · by_cases hb : b = a
    · subst hb
      rw [upd_same] at e
      cases e
      exact ⟨⟨oe, vs, ha, h1, h2, h3⟩, ⟨oe, ha⟩, fun g1 g2 ⟨o, w, q1, q2⟩ k => ⟨o, w, k _ q1, q2⟩⟩
    · rw [upd_ne hb] at e
      exact (I.hok b u e).stay (fun _ _ _ q => q) (fun d q => by rw [upd_ne (ne_of_none q na)]; exact q) fun d xs q => by rw [upd_ne (ne_of_none q na)]; exact q
end
/-- what is wished of an exception of the body: n stands in slot i, y in slot j -/
def wKeep (K : PySem.W.Frag) (c : Value) (i j : Nat) (Wout : WX) (D : Ends) : WX := fun cls d σ H =>
  ∃ b, PySem.W.exmOne K cls c = some b ∧ (b = true → ∃ C dd, cls = .ref C ∧ d = some dd ∧ ∀ a, H a = none → D.nx (((σ.set i (some (.ref a))).set j (some (.ref a))).set i none) (upd H a (excH a C dd))) ∧ (b = false → Wout cls d σ H)
section
variable {X : Cx} {x n y : Str} {c : Value} {i j : Nat} {body : List Stmt} {np pos pos' py qn spos : Pos} {tb : WX → TS} {Wout : WX}
theorem ps_try_keep (hs : X.stack = X.env :: X.outer) (hf : X.env.frame = some X.env.locals) (hex : X.ex = []) (hN : X.N.Nodup) (hi : X.N[i]? = some n) (hj : X.N[j]? = some y) (hln : X.env.kindOf n = some .local) (hly : X.env.kindOf y = some .local)
    (dn : (n == ("__debug__" : Str)) = false) (dc : (n == ("__classdict__" : Str)) = false) (hsw : ∀ env, swapsWith (.Name n qn) (some (.Name y py)) spos.line env = pure false) (hc : Names X x c) (tk : Takes X Wout)
    (hb : ∀ (W : WX) (pn : List (Addr × Obj)) (xe : Value → Shared → Prop), Takes (X.tr pn xe) W → PassesOwn (model X.prog X.w) X.A X.env xe → PSs (X.tr pn xe) body (tb W)) :
    PS X (.Try body [.ExceptHandler (some (.Name x np)) (some n) [.Assign [.Name y py] (.Name n qn) spos] pos'] [] [] pos) (fun D σ H => tb (wKeep X.K c i j Wout D) D σ H) := ⟨fun pins s σ H D I h => by
  have ok := I.ok
  have hfr : X.A.frames = some (X.env :: X.outer) := by rw [ok.frames, hs]
  refine wpAny_Try_except (wpAny_mono ((hb (wKeep X.K c i j Wout D) (X.pn ++ pins) _ (fun u s' xx => ?_) PassesOwn.looking).run [] s σ H D (I.toTry _) h) (fun f s1 hsp => ?_) (fun e s1 he => he))
  rotate_left
  · match f, hsp with
    | .next, ⟨σ', H', J, q⟩ => exact wpAny_execs_nil ⟨σ', H', J.ofTry ok, q⟩
    | .brk, ⟨σ', H', J, q⟩ => exact ⟨σ', H', J.ofTry ok, q⟩
    | .cont, ⟨σ', H', J, q⟩ => exact ⟨σ', H', J.ofTry ok, q⟩
    | .ret u, ⟨v, σ', H', J, r, q⟩ => exact ⟨v, σ', H', J.ofTry ok, r, q⟩
  obtain ⟨a, B, sI, pins', σ', H', cls, d, rfl, J', nb, up, sky, na, os, ag, b, hb1, hyes, hno⟩ := xx
  have J : Inv X pins σ' H' sI := J'.ofTry ok
  have nB : B.get? a = none := by
    rcases sky with ⟨_, q, _⟩ | q | q
    · exact q
    · exact q.2.1
    · exact q.2.1
  have nfrs : ∀ {q : Addr}, q ≠ X.env.locals → q ∉ X.fs → q ∉ frs X.stack := fun {q} h1 h2 hm => by
    rcases List.mem_cons.mp (J.stkSub q hm) with z | z
    · exact h1 z
    · exact h2 z
  refine (show wpAny (model X.prog X.w) X.A (noteFrame (.ref a) X.env) _ _ _ from Sky.land Zc.steady hfr hf (by rw [← hs]; exact sky) fun h3 fl3 up3 => ?_)
  have J3 : Inv X pins σ' H' { s' with heap := h3 } := J.landed nb fl3.1 (up.trans up3) os ag
  obtain ⟨oe3, vs3, he3, hz3, hd3⟩ := fl3.there
  have nfr : a ∉ frs (X.env :: X.outer) := fun hm => by
    obtain ⟨_, o, e, hnf⟩ := fl3.2.2.1.mem hm
    rw [he3] at e; cases e
    exact hnf _ hd3
  have nL : a ≠ X.env.locals := fun z => nfr (List.mem_filterMap.mpr ⟨X.env, List.mem_cons_self, by rw [hf, z]⟩)
  have nF : a ∉ X.fs := fun hm => by
    obtain ⟨e, q1, q2⟩ := List.mem_filterMap.mp hm
    exact nfr (List.mem_filterMap.mpr ⟨e, List.mem_cons_of_mem _ q1, q2⟩)
  have n0 : X.s_0.heap.get? a = none := by
    cases q : X.s_0.heap.get? a with
    | none => rfl
    | some o =>
      obtain ⟨o', e⟩ := J.base.there a o q (by rw [hex]; simp)
      rw [nb a o' e (nfrs nL nF)] at nB
      cases nB
  have npin : ∀ p ∈ X.pn ++ pins, p.1 ≠ a := fun p hp z => by
    obtain ⟨e1, _, e3, e4, _⟩ := J.pin p hp
    rw [z] at e1 e3 e4
    rw [nb a _ e1 (nfrs e3 e4)] at nB
    cases nB
  have S3 := J3.suite he3 hd3 na nL nF
  refine wpAny_handleBy_cons (codeAny_handlers_test ?_) (by intro q; cases q)
  have LM := PySem.W.exm_one (M := model X.prog X.w) J3.kIn (fun A Q E s k q => wpAny_typeOf_ref (k _ _ he3) (by rw [hz3.1]; exact q)) hb1
  have tst : ∀ {Q E : Value → Shared → Prop}, Q c { s' with heap := h3 } → wpAny (model X.prog X.w) (X.A.mark (some (.ref a))) (eval (.Name x np) X.env) Q E { s' with heap := h3 } := fun {Q E} q => by
    obtain ⟨g1, g2, hm⟩ := hc
    rcases hm with hm | ⟨hm, hv, hnn⟩
    · exact ld_glob (X := X.suite a ((a, oe3) :: (X.pn ++ pins))) S3 g1 hm q g2
    · exact ld_blt (X := X.suite a ((a, oe3) :: (X.pn ++ pins))) S3 g1 hm hv q hnn g2
  refine tst (LM.here ?_)
  cases b with
  | true =>
    obtain ⟨C, dd, rfl, rfl, hnx⟩ := hyes rfl
    refine codeAny_handlers_suite_as (HandSPX.lands_againZ fl3 fun h4 fl4 up4 => ?_)
    have J4 : Inv X pins σ' H' { s' with heap := h4 } := J.landed nb fl4.1 ((up.trans up3).trans up4) os ag
    obtain ⟨oe4, vs4, he4, hz4, hd4⟩ := fl4.there
    have S4 := J4.suite he4 hd4 na nL nF
    have hv : PE (X.suite a ((a, oe4) :: (X.pn ++ pins))) (.Name n qn) (tVar i) := pe_var (i := i) hi (.inl hln) dn dc
    have hst : PS (X.suite a ((a, oe4) :: (X.pn ++ pins))) (.Assign [.Name y py] (.Name n qn) spos) (tAsg (tVar i) (gName j)) := ps_set (i := j) hN hj (.inl hly) hv (hsw _) (.inr hly)
    have hiσ : i < σ'.length := by rw [J.len]; exact (List.getElem?_eq_some_iff.mp hi).1
    refine store_ok (X := X.suite a ((a, oe4) :: (X.pn ++ pins))) (v := .ref a) S4 hN hi (.inl hln) rfl (fun s5 S5 => ?_) (.inr hln)
    refine wpAny_mono ((pss_one hst).run [] s5 _ H' { nx := fun σ6 H6 => σ6 = (σ'.set i (some (.ref a))).set j (some (.ref a)) ∧ H6 = H', rt := fun _ _ => False } S5 ⟨.ref a, by rw [List.getElem?_set_self hiσ], rfl, rfl⟩) (fun f s6 q6 => ?_) (fun _ _ z => False.elim z)
    match f, q6 with
    | .next, ⟨σ6, H6, S6, e6, e7⟩ =>
      subst e6
      subst e7
      have J6 : Inv X ((a, oe4) :: pins) _ H6 s6 := ⟨ok, S6.os, S6.bare, S6.base, S6.loc, S6.cell, S6.free, S6.freeC, fun p hp => S6.pin p (by
        refine List.mem_append_left _ ?_
        rcases List.mem_append.mp hp with z | z
        · exact List.mem_cons_of_mem _ (List.mem_append_left _ z)
        · rcases List.mem_cons.mp z with z | z
          · rw [z]; exact List.mem_cons_self
          · exact List.mem_cons_of_mem _ (List.mem_append_right _ z)), S6.hok, S6.len⟩
      refine gone_ok J6 hN hi hln fun s7 J7 => ⟨_, _, track_exc (ClX.unpin J7) (ClX.pin_at J7) na n0 nL npin hz4.1 hz4.2 hd4, hnx a na⟩
    | .brk, ⟨_, _, _, z⟩ => exact z.elim
    | .cont, ⟨_, _, _, z⟩ => exact z.elim
    | .ret u, ⟨_, _, _, _, _, z⟩ => exact z.elim
  | false =>
    refine (show wpAny (model X.prog X.w) X.A (handleBy (.ref a) X.env []) _ _ _ from wpAny_handleBy_nil ?_)
    obtain ⟨k1, k2, k3, oe, vs, T, oT, ts', he, hz, hd, h1, hr⟩ := id fl3
    unfold PySem.passOn
    refine wpAny_bind (wpAny_field he hd h1 ?_)
    rw [if_neg (show ¬ ((Value.ref T == Value.none) = true) from by simp)]
    have fin : wpAny (model X.prog X.w) X.A (setFlight (.ref a) X.env.frame) (fun _ s4 => wpAny (model X.prog X.w) X.A (throw (.ref a) : Sem Flow) (SP X pins D) X.xe s4) X.xe { s' with heap := h3 } := by
      rw [hf]
      exact HandSPX.setFlight_upZ fl3 fun h4 hh4 up4 => wpAny_throw (tk _ _ ⟨a, B, sI, pins, σ', H', cls, d, rfl, J, nb, (up.trans up3).trans up4, .inr (.inr (by rw [hs]; exact hh4)), na, os, ag, hno rfl⟩)
    first | exact wpAny_bind (wpAny_pure (wpAny_bind fin)) | exact wpAny_bind fin⟩
end

/-! ### the rule for try .. except .. as over data; a caught exception is read -/
theorem Sat.cv {C C' : CD} {Γ : En} {O : Own} {σ : St} {H : Hp} (S : Sat C Γ O σ H) (h1 : C'.N = C.N) (h2 : C'.M = C.M) (h3 : C'.O0 = C.O0) (h4 : C'.H0 = C.H0) : Sat C' Γ O σ H :=
  ⟨by rw [h1]; exact S.nm, by rw [h2]; exact S.sl, by rw [h2]; exact S.own, by rw [h3, h4]; exact S.le⟩
theorem up_none {K : PySem.W.Frag} {P : Addr → Prop} {H : Hp} : ∀ {Γ Γ' : En} {x : Str} {σ : St}, Up Γ x none Γ' → (Γ.map (·.1)).Nodup → RepSl K P H Γ σ → RepSl K P H Γ' (σ.set ((Γ.map (·.1)).idxOf x) none) := fun u nd r => u.unset nd r
/-- the context of a try's body -/
abbrev CD.try (C : CD) (ED : Exn → En → Own → Prop) : CD := { C with ED := ED }
theorem ok_try {C : CD} {X : Cx} {pn : List (Addr × Obj)} {xe : Value → Shared → Prop} {ED : Exn → En → Own → Prop} (ok : Ok C X)
    (tk : Takes (X.tr pn xe) fun cls d σ H => ∃ x Γ O, ED x Γ O ∧ Sat C Γ O σ H ∧ RepX C.M.K O H x cls d) (ow : PassesOwn (model X.prog X.w) X.A X.env xe) : Ok (C.try ED) (X.tr pn xe) where
  prog := ok.prog
  w := ok.w
  K := ok.K
  mg := ok.mg
  base := ok.base
  N := ok.N
  nd := ok.nd
  sc := ok.sc
  vis := ok.vis
  loc := ok.loc
  gl := ok.gl
  calm := ok.calm
  room := ok.room
  grd := ok.grd
  thr := fun σ EK h pins H s e s' I c => by
    refine tk e s' (XE.of_call I (fun cls d H' z => ?_) c)
    obtain ⟨x, Γ, O, q, S, r⟩ := h cls d H' z
    exact ⟨x, Γ, O, q, S.cv rfl rfl rfl rfl, r⟩
  own := ow
  tk := tk.imp fun cls d σ H ⟨x, Γ, O, q, S, r⟩ => ⟨x, Γ, O, q, S.cv rfl rfl rfl rfl, r⟩
  stk := ok.stk
  lm := ok.lm
section
variable {C : CD} {X : Cx} {Γ Γ' : En} {O : Own} {Q : D → Own → Prop} {N : De} {pos pos' np py qn spos p : Pos} {e : Expr} {es : List Expr} {x n y : Str} {B : Addr} {body : List Stmt}
/-- what the suite leaves of an exception: y holds it, n is gone -/
def Kept (Γ : En) (y n : Str) (Cl : Addr) (fs : List (Str × D)) (P : En → Prop) : Prop := ∃ Γ1 Γ2, Up Γ y (some (.exc Cl fs)) Γ1 ∧ Up Γ1 n none Γ2 ∧ P Γ2
theorem ws_try (ht : C.top = true) (hn : n ∈ C.N) (hy : y ∈ C.N) (hne : y ≠ n) (hln : C.sc.names.lookup n = some .local) (hly : C.sc.names.lookup y = some .local) (dn : (n == ("__debug__" : Str)) = false) (dc : (n == ("__classdict__" : Str)) = false)
    (hsw : ∀ env, swapsWith (.Name n qn) (some (.Name y py)) spos.line env = pure false) (g : x ∈ C.Gs) (hm : C.M.mg x = some (.ref B))
    (h : ∀ pn xe, WSs (C.try fun x Γ' O' => ∃ b, PySem.W.exmOne C.M.K (.ref x.cls) (.ref B) = some b ∧ (b = true → x.fs ≠ [] ∧ Kept Γ' y n x.cls x.fs fun Γ2 => N.nx Γ2 O') ∧ (b = false → C.ED x Γ' O')) (X.tr pn xe) body Γ O N) :
    WS C X (.Try body [.ExceptHandler (some (.Name x np)) (some n) [.Assign [.Name y py] (.Name n qn) spos] pos'] [] [] pos) Γ O N := .mk fun ok σ H S D hD => by
  obtain ⟨k1, k2, k3⟩ := ok.stk ht
  have gx := ok.gl x g
  have hix : ∀ z ∈ C.N, X.N[C.N.idxOf z]? = some z := fun z hz => by rw [ok.N]; exact getElem?_idxOf' hz
  have hkn : ∀ z, C.sc.names.lookup z = some .local → X.env.kindOf z = some .local := fun z hz => by show X.env.scope.names.lookup z = _; rw [ok.sc]; exact hz
  refine sw_of (ps_try_keep (x := x) (n := n) (y := y) (i := C.N.idxOf n) (j := C.N.idxOf y) (c := .ref B) (Wout := fun cls d σ H => ∃ x Γ O, C.ED x Γ O ∧ Sat C Γ O σ H ∧ RepX C.M.K O H x cls d)
    (tb := fun W D' σ' H' => σ' = σ ∧ H' = H ∧ D' = D ∧ ∀ cls d σ H, (∃ x Γ O, (∃ b, PySem.W.exmOne C.M.K (.ref x.cls) (.ref B) = some b ∧ (b = true → x.fs ≠ [] ∧ Kept Γ y n x.cls x.fs fun Γ2 => N.nx Γ2 O) ∧ (b = false → C.ED x Γ O)) ∧ Sat C Γ O σ H ∧ RepX C.M.K O H x cls d) → W cls d σ H)
    k1 k2 k3 (by rw [ok.N]; exact ok.nd) (hix n hn) (hix y hy) (hkn n hln) (hkn y hly) dn dc hsw ⟨gx.1, gx.2, .inl (by rw [ok.mg]; exact hm)⟩ ok.tk fun W pn xe tk ow => ⟨fun pins s σ' H' D' I ⟨e1, e2, e3, hW⟩ => ?_⟩) ?_
  · subst e1; subst e2; subst e3
    refine h _ _ (ok_try ok (tk.imp fun cls d σ H z => hW cls d σ H z) ow) σ' H' (S.cv rfl rfl rfl rfl) D' ?_ pins s I
    exact ⟨fun σ H Γ O q S => hD.nx σ H Γ O q (S.cv rfl rfl rfl rfl), fun v H d O q w l r => hD.rt v H d O q w l r, fun σ H Γ O q S => hD.bk σ H Γ O q (S.cv rfl rfl rfl rfl), fun σ H Γ O q S => hD.ct σ H Γ O q (S.cv rfl rfl rfl rfl)⟩
  · refine ⟨rfl, rfl, rfl, fun cls d σ1 H1 ⟨x1, Γ1, O1, ⟨b, hb, hyes, hno⟩, S1, r1⟩ => ?_⟩
    obtain ⟨rfl, r1⟩ := r1
    refine ⟨b, by rw [ok.K]; exact hb, fun hbt => ?_, fun hbf => ⟨x1, Γ1, O1, hno hbf, S1, rfl, r1⟩⟩
    obtain ⟨hfs, Γ2, Γ3, u1, u2, q⟩ := hyes hbt
    rcases r1 with ⟨z, _⟩ | ⟨dd, gs, rfl, nd, ed, rf⟩
    · exact absurd z hfs
    refine ⟨x1.cls, dd, rfl, rfl, fun a na => hD.nx _ _ Γ3 O1 q ?_⟩
    have l := Le.new_obj (o := excH a x1.cls dd) O1 na
    have w := ownOk_new (o := excH a x1.cls dd) S1.own na
    have S2 := S1.step l w
    have hrep : Rep C.M.K O1.has (upd H1 a (excH a x1.cls dd)) (.exc x1.cls x1.fs) (.ref a) := by
      simp only [Rep]
      exact ⟨a, dd, gs, rfl, S1.own.nothas na, upd_same, nd, by rw [upd_ne (ne_of_none ed na)]; exact ed, RepF.le l rf⟩
    have nd0 : (Γ1.map (·.1)).Nodup := by rw [S1.nm]; exact ok.nd
    have hlen : ∀ {Γ : En} {σ : St}, RepSl C.M.K O1.has (upd H1 a (excH a x1.cls dd)) Γ σ → σ.length = Γ.length := fun {Γ σ} => by
      induction Γ generalizing σ with
      | nil => intro r; simp only [RepSl] at r; subst r; rfl
      | cons p Γ ih =>
        obtain ⟨z, o⟩ := p
        cases o with
        | none => intro r; simp only [RepSl] at r; obtain ⟨_, r', rfl, r⟩ := r; simp [ih r]
        | some o => intro r; simp only [RepSl] at r; obtain ⟨_, r', rfl, _, r⟩ := r; simp [ih r]
    obtain ⟨i1, hi1, r2⟩ := u1.set (v := .ref a) S2.sl hrep
    have r3 := u2.unset (by rw [u1.nm]; exact nd0) r2
    have ei : i1 = C.N.idxOf y := by
      rw [S1.nm] at hi1
      exact nodup_ix ok.nd hi1 (getElem?_idxOf' hy)
    have en : (Γ2.map (·.1)).idxOf n = C.N.idxOf n := by rw [u1.nm, S1.nm]
    rw [ei, en] at r3
    have hne2 : C.N.idxOf n ≠ C.N.idxOf y := fun z => hne (by
      have a1 := getElem?_idxOf' hy
      have a2 := getElem?_idxOf' hn
      rw [z, a1] at a2
      exact Option.some.inj a2)
    have es : ((σ1.set (C.N.idxOf n) (some (V.ref a))).set (C.N.idxOf y) (some (V.ref a))).set (C.N.idxOf n) none = (σ1.set (C.N.idxOf y) (some (V.ref a))).set (C.N.idxOf n) none := by
      refine List.ext_getElem? fun k => ?_
      simp only [List.getElem?_set, List.length_set]
      by_cases h1 : C.N.idxOf n = k
      · simp [h1]
      · simp [h1]
    rw [es]
    exact ⟨by rw [u2.nm, u1.nm]; exact S1.nm, r3, S2.own, S2.le⟩
end
end DL
namespace DL
open PySem PySem.Spec PyProof.Rows L2

/-! ### a caught exception is read -/
/-- what the written part says of an exception class whose instances are read -/
structure ExcK (K : PySem.W.Frag) (Cl : Addr) : Prop where
  cl : (PySem.W.clsIn K Cl).isSome = true
  hd : PySem.W.hasDictIn K Cl = true
  ga : PySem.W.findIn K (.ref Cl) "__getattribute__" = some (some (.builtin "BaseException.__getattribute__"))
  gg : PySem.W.findIn K (.ref Cl) "__getattr__" = some none
  sub : PySem.W.subIn K (.ref Cl) (.type "BaseException") = some true
  ha : PySem.W.findIn K (.ref Cl) "__class__" = some (some (.builtin "object.__class__"))
  hn : PySem.W.specialIn K (.builtin "object.__class__") "__get__" = some (some (.builtin "getset_descriptor.__get__"))
  ht : PySem.W.takesIn K (.builtin "object.__class__") = some true
  hm : PySem.W.mroIn K Cl (.type "object") = some true
section
variable {C : CD} {X : Cx} {Γ : En} {O : Own} {Q : D → Own → Prop} {pos : Pos} {e : Expr} {Cl : Addr} {fs : List (Str × D)} {H : Hp} {σ : St}
/-- the object behind it -/
theorem exc_inst {v : V} {pins : List (Addr × Obj)} {s : Shared} (r : Rep C.M.K O.has H (.exc Cl fs) v) (I : Inv X pins σ H s) :
    ∃ (a dd : Addr) (gs : List (Str × V)) (oe od : Obj) (mA : Str → Option Value), v = .ref a ∧ PySem.W.InstAt s.heap a oe Cl (some od) ∧ H dd = some (.xd gs) ∧ RepF C.M.K O.has H fs gs ∧ s.heap.Ns1 dd mA ∧ (∀ f, RelO (gs.lookup f) (mA f)) ∧ s.heap.get? dd = some od := by
  simp only [Rep] at r
  obtain ⟨a, dd, gs, rfl, _, ea, _, ed, rf⟩ := r
  have x : ObjOk X.prog X.w H s.heap a (excH a Cl dd) := I.hok a _ ea
  obtain ⟨⟨oe, vs, h1, h2, h3, h4⟩, _, _⟩ := (show _ ∧ _ ∧ _ from x)
  have y : ObjOk X.prog X.w H s.heap dd (.xd gs) := I.hok dd _ ed
  obtain ⟨mA, hns, rel⟩ := y
  obtain ⟨od, ho, _⟩ := lookIn_ns hns
  exact ⟨a, dd, gs, oe, od, mA, rfl, ⟨h1, h2, by unfold PySem.W.notCls; rw [h4] <;> rfl, by rw [h3]; exact ho⟩, ed, rf, hns, rel, ho⟩
theorem bf_isiX {c : D} {u : Value} {b : Bool} (T : ExcK C.M.K Cl) (h2 : ClD c u) (h3 : PySem.W.kitOne C.M.K (.ref Cl) u = some b) (q : Q (.bl b) O) : BF C (.builtin "isinstance") [.exc Cl fs, c] Γ O Q := .mk fun X ok σ H S vs r0 k hk pins s us I r => by
  obtain ⟨v, w, rfl, r1, r2⟩ := reps2 r0
  obtain ⟨a, dd, gs, oe, od, mA, rfl, J, _⟩ := exc_inst r1 I
  obtain ⟨u1, u2, rfl, g1, g2⟩ := vals2 r
  cases g1
  have e2 := (h2.ok r2).eq g2
  subst e2
  have Z := PySem.W.kitx_exc (K := X.K) (x := a) (od := some od) (ox := oe) (by rw [ok.K]; exact T.cl) (by rw [ok.K]; exact T.ga) (by rw [ok.K]; exact T.gg) (by rw [ok.K]; exact T.sub) (by rw [ok.K]; exact T.ha) (by rw [ok.K]; exact T.hn) (by rw [ok.K]; exact T.ht) (by rw [ok.K]; exact T.hm)
  exact PySem.W.kia_one Z I.kIn J (by rw [ok.K]; exact h3) (fun z => nomatch z) fun tk => ⟨.bl b, H, I.tok tk, rfl, hk.at q S (rep_bl.mpr rfl)⟩
theorem we_xfld {f : Str} (hb : ∀ env, attributeBase e f env (eval e env) = eval e env) (h : DL.WE C X e Γ O fun d O1 => ∃ Cl fs v, d = .exc Cl fs ∧ ExcK C.M.K Cl ∧ PySem.W.findIn C.M.K (.ref Cl) f = some none ∧ FAt fs f v ∧ Q v O1) : DL.WE C X (.Attribute e f pos) Γ O Q := .mk fun ok σ H S k hk pins s I => by
  refine attr_of (hb _) (thn (h ok σ H S (fun x H1 => ∃ Cl fs d O1, Rep C.M.K O1.has H1 (.exc Cl fs) x ∧ ExcK C.M.K Cl ∧ PySem.W.findIn C.M.K (.ref Cl) f = some none ∧ FAt fs f d ∧ Q d O1 ∧ Sat C Γ O1 σ H1 ∧ Le O H O1 H1) (fun v H1 d O1 q S1 l r => by
    obtain ⟨Cl, fs, v', rfl, a, b, c, q⟩ := q
    exact ⟨Cl, fs, v', O1, r, a, b, c, q, S1, l⟩) pins s I) fun u s1 ⟨x, H1, I1, rx, Cl, fs, d, O1, r, T, hno, hf, q, S1, l⟩ => ?_)
  obtain ⟨a, dd, gs, oe, od, mA, rfl, J, ed, rf, hns, rel, ho⟩ := exc_inst r I1
  obtain rfl : u = Value.ref a := rx
  obtain ⟨v, hl, rv⟩ := hf.get rf
  obtain ⟨u, hu, ru⟩ := RelO.some_of (v := v) (o := mA f) (by rw [← hl]; exact rel f)
  obtain ⟨od', ho', hl'⟩ := lookIn_ns hns
  rw [ho] at ho'; cases ho'
  exact HandSPX.exc_get I1.kIn J (by rw [ok.K]; exact T.ga) (by rw [ok.K]; exact T.gg) (by rw [ok.K]; exact T.sub) (PySem.W.findObj_own (by rw [ok.K]; exact T.hd) (by rw [ok.K]; exact hno) rfl (by rw [hl', hu])) (handed_of ru) ⟨v, H1, I1.tok _, ru, hk v H1 d O1 q S1 l rv⟩
end
/-! ### exception classes, from their texts -/
section
variable {M : Md} {st : Stmt} {qual : Str} {Cl f cc : Addr} {fd : FuncData} {a a2 f1 f2 x : Str} {p0 p1 p2 p3 p4 q0 q1 q2 q3 q4 q5 q6 q7 q8 q9 : Pos}
theorem entX1 (F : XiF M.P M.K ["self", a] qual st f cc fd) (Z : XiC M.P M.K Cl f cc) (hm : M.mg x = some (.ref Cl)) (hb : L2.Binds M.K fd ["self", a] [])
    (hbody : defBody st = [.Expr (.Call (.Attribute (.Call (.Name "super" p0) [] [] p1) "__init__" p2) [.Name a q0] [] p3) p4, .Assign [.Attribute (.Name "self" q1) f1 q2] (.Name a q3) q4])
    (hn : XiNode [.Name a q0] p0 p1 p2 p3) (hf : PySem.W.findIn M.K (.ref Cl) f1 = some none) (ha : ("self" : Str) ≠ a) (hd : (a == ("__debug__" : Str)) = false) (hcd : (a == ("__classdict__" : Str)) = false) : EntX M x Cl [f1] :=
  ⟨hm, Z.T, f, fd, _, _, Z.iC, Z.tI, hb, xi_ok1 F Z hbody hn hf ha hd hcd, fun e ys H Q E hl he h => by
    match ys, hl with
    | [y], _ => exact ⟨e, y, rfl, he, fun dx n1 n2 => h dx _ n1 n2 upd_same (by rw [upd_ne n2, upd_same]; rfl) fun b h1 h2 => by rw [upd_ne h1, upd_ne h2]⟩⟩
theorem entX2 (F : XiF M.P M.K ["self", a, a2] qual st f cc fd) (Z : XiC M.P M.K Cl f cc) (hm : M.mg x = some (.ref Cl)) (hb : L2.Binds M.K fd ["self", a, a2] [])
    (hbody : defBody st = [.Expr (.Call (.Attribute (.Call (.Name "super" p0) [] [] p1) "__init__" p2) [.Name a q0, .Name a2 q9] [] p3) p4, .Assign [.Attribute (.Name "self" q1) f1 q2] (.Name a q3) q4, .Assign [.Attribute (.Name "self" q5) f2 q6] (.Name a2 q7) q8])
    (hn : XiNode [.Name a q0, .Name a2 q9] p0 p1 p2 p3) (hf : PySem.W.findIn M.K (.ref Cl) f1 = some none) (hf2 : PySem.W.findIn M.K (.ref Cl) f2 = some none) (ha : ("self" : Str) ≠ a) (ha2 : ("self" : Str) ≠ a2) (ha3 : a ≠ a2)
    (hd : (a == ("__debug__" : Str)) = false) (hcd : (a == ("__classdict__" : Str)) = false) (hd2 : (a2 == ("__debug__" : Str)) = false) (hcd2 : (a2 == ("__classdict__" : Str)) = false) : EntX M x Cl [f1, f2] :=
  ⟨hm, Z.T, f, fd, _, _, Z.iC, Z.tI, hb, xi_ok2 F Z hbody hn hf hf2 ha ha2 ha3 hd hcd hd2 hcd2, fun e ys H Q E hl he h => by
    match ys, hl with
    | [y, z], _ => exact ⟨e, y, z, rfl, he, fun dx n1 n2 => h dx _ n1 n2 (by rw [upd_ne (Ne.symm n2), upd_same]) (by rw [upd_same]; rfl) fun b h1 h2 => by rw [upd_ne h2, upd_ne h1, upd_ne h2]⟩⟩
end
end DL
namespace DL
open PySem PySem.Spec PyProof.Rows L2

/-! ### lambdas without parameters, handed to a def that calls them -/
section
variable {X : Cx} {pins : List (Addr × Obj)} {σ : L2.St} {H : Hp} {s : Shared}
/-- what the making of a lambda leaves -/
def LamLeft (H H1 : Hp) (P c' : Addr) (q : Str) : Prop :=
  H1 = H ∨ ∃ ps : Array Value, H c' = none ∧ H1 = upd (upd H P (.tbl ps)) c' (LamX.CodeO c' q) ∧ TriplesOk ps.toList ∧ ∀ (pos : Pos) (cv : Value), codeAmong pos ps.toList = some cv → ∃ c, cv = .ref c ∧ (c = c' ∨ H c = some (LamX.CodeO c q))
theorem lam_make3 {c P : Addr} {params : Arguments} {body : Expr} {scope : Scope} {pos : Pos} {ps : Array Value} {E Q : Value → Shared → Prop} (I : Inv X pins σ H s) (TB : LamX.TabB X.base X.mg c P) (hcode : X.env.code = .ref c) (hP : H P = some (.tbl ps)) (ht : TriplesOk ps.toList)
    (ha : ∀ (pos : Pos) (cv : Value), codeAmong pos ps.toList = some cv → ∃ d, cv = .ref d ∧ H d = some (LamX.CodeO d (X.env.qual ++ "<lambda>"))) (hdef : defaultsOf params X.env = ([], [])) (hfree : ∀ y ∈ scope.names, y.2 = .free → ∃ c, X.env.cells.lookup y.1 = some c)
    (h : ∀ (f c' : Addr) (pm ctv : Value) (H1 : Hp) (s' : Shared), Inv X pins σ H1 s' → LamLeft H H1 P c' (X.env.qual ++ "<lambda>") →
      s'.heap.get? f = some (PySem.W.kla_obj "<lambda>" (X.env.qual ++ "<lambda>") params body scope (cloFrom X.env.cells scope.names []) pm c' ctv) → H1 f = none → f ∉ frs X.stack → H1 c' = some (LamX.CodeO c' (X.env.qual ++ "<lambda>")) → Q (.ref f) s') :
    wpAny (model X.prog X.w) X.A (eval (.Lambda params body scope pos) X.env) Q E s := by
  have bP : s.heap.BuiltinsAt X.mg P := TB.bm.keeps I.bk
  have hP' : s.heap.get? P = some { cls := .none, data := .fields ps } := I.hok P _ hP
  have far : ∀ {f : Addr}, s.heap.objs.size ≤ f → f ∉ frs X.stack := fun {f} hf z => (List.mem_cons.mp (I.stkSub _ z)).elim (fun e => by
    have h1 := I.lt
    rw [← e] at h1
    exact Nat.lt_irrefl _ (Nat.lt_of_lt_of_le h1 hf)) fun e => I.nofs hf e
  have gl := I.mod.glob.keeps I.bk
  have cd := TB.code.keeps I.bk
  refine PySem.W.kla_eval hdef ?_
  cases hc : codeAmong pos ps.toList with
  | some cv =>
    obtain ⟨c', e, hco⟩ := ha pos cv hc
    subst e
    refine PySem.W.kla_makeFunctionHit (closure_ok hfree) I.ok.glob gl hcode cd hP' ht hc bP fun ctv h' tk hx hsz => ?_
    have I1 := I.kept (t' := tk) (h' := h'.push (PySem.W.kla_obj "<lambda>" (X.env.qual ++ "<lambda>") params body scope (cloFrom X.env.cells scope.names []) ((X.mg "__name__").getD .none) c' ctv)) fun b o e => Heap.get?_push_of_some _ (hx b o e)
    exact h h'.objs.size c' _ ctv H _ I1 (.inl rfl) (Heap.get?_push_size _ rfl) (I.hok.fresh hsz) (far hsz) hco
  | none =>
    refine PySem.W.kla_makeFunction (closure_ok hfree) I.ok.glob gl hcode cd hP' ht hc TB.gP bP fun c' ctv h' tk hx hge hlt hrec htb => ?_
    obtain ⟨c2, oc, vs, t, e2, hoc, hd, hv⟩ := hrec
    cases e2
    have nC : H c' = none := I.hok.fresh hge
    have hsz : s.heap.objs.size ≤ h'.objs.size := Nat.le_trans hge (Nat.le_of_lt hlt)
    have eL : (ps ++ #[rawInt pos.line, rawInt pos.col, .ref c']).toList = ps.toList ++ [rawInt pos.line, rawInt pos.col, .ref c'] := by simp
    have I1 := LamX.inv_table (q := X.env.qual ++ "<lambda>") (c := c') (t' := tk) (more := #[rawInt pos.line, rawInt pos.col, .ref c']) (h' := h'.push (PySem.W.kla_obj "<lambda>" (X.env.qual ++ "<lambda>") params body scope (cloFrom X.env.cells scope.names []) ((X.mg "__name__").getD .none) c' ctv)) I hP
      (fun b o hb e => Heap.get?_push_of_some _ (hx b o hb e)) (Heap.get?_push_of_some _ htb) hge ⟨oc, vs, t, Heap.get?_push_of_some _ hoc, hd, hv⟩
    refine h h'.objs.size c' _ ctv _ _ I1 (.inr ⟨_, nC, rfl, by rw [eL]; exact PySem.TriplesOk_snoc _ _ _ _ ht, fun p' cv hcv => ?_⟩) (Heap.get?_push_size _ rfl) ?_ (far hsz) upd_same
    · rw [eL] at hcv
      rcases LamX.among_app _ ht hcv with z | z
      · obtain ⟨d, e1, e2⟩ := ha p' cv z
        exact ⟨d, e1, .inr e2⟩
      · exact ⟨c', z, .inl rfl⟩
    · rw [upd_ne (Nat.ne_of_gt hlt), upd_ne (Nat.ne_of_gt (Nat.lt_of_lt_of_le (Heap.lt_size hP') hsz))]
      exact I.hok.fresh hsz
end
section
variable {K : PySem.W.Frag} {O : Own} {H H1 : Hp}
theorem own_notext {c : Addr} {φ : Heap → Prop} (w : OwnOk K O H) (e : H c = some (.ext φ)) : ¬ O.has c := fun h => by
  obtain ⟨⟨a, od⟩, h1, rfl⟩ := List.mem_map.mp h
  have q := w.at_ a od h1
  cases od with
  | lst ds => obtain ⟨xs, e2, _⟩ := q; rw [e] at e2; cases e2
  | dct ds => obtain ⟨xs, e2, _⟩ := q; rw [e] at e2; cases e2
  | ins C ds => obtain ⟨dx, xs, e2, _⟩ := q; rw [e] at e2; cases e2
  | box P => obtain ⟨ds, xs, _, e2, _⟩ := q; rw [e] at e2; cases e2
  | tab q0 => obtain ⟨ps, e2, _⟩ := q; rw [e] at e2; cases e2
theorem lam_left {P c' : Addr} {q : Str} (w : OwnOk K O H) (hP : OAt O P (.tab q)) (l : LamLeft H H1 P c' q) (hc : H1 c' = some (LamX.CodeO c' q)) : OwnOk K O H1 ∧ Le O H O H1 ∧ ¬ O.has c' := by
  have hasP : O.has P := List.mem_map.mpr ⟨_, hP.mem, rfl⟩
  rcases l with rfl | ⟨ps, nC, rfl, ht, ha⟩
  · exact ⟨w, Le.refl _ _, own_notext w hc⟩
  · have nPc : P ≠ c' := fun z => w.there (z ▸ hasP) nC
    have le : Le O H O (upd (upd H P (.tbl ps)) c' (LamX.CodeO c' q)) := ⟨fun b o e n => by
      rw [upd_ne (ne_of_none e nC), upd_ne (fun z : b = P => n (by rw [z]; exact hasP))]; exact e, fun _ h => .inl h⟩
    refine ⟨⟨w.nd, fun b ob hb => ?_⟩, le, w.nothas nC⟩
    by_cases e : b = P
    · subst e
      have : ob = .tab q := (OUp.same hP).self w.nd ob hb
      subst this
      refine ⟨ps, by rw [upd_ne nPc, upd_same], ht, fun pos cv h => ?_⟩
      obtain ⟨c, e1, e2⟩ := ha pos cv h
      rcases e2 with rfl | e2
      · exact ⟨_, e1, w.nothas nC, upd_same⟩
      · have n := own_notext w e2
        exact ⟨c, e1, n, le.keep _ _ e2 n⟩
    · exact RepO.le le (fun o z => by rw [upd_ne (ne_of_none z nC), upd_ne e]; exact z) (w.at_ b ob hb)
end

/-! ### the call of the lambda, in the def that got it -/
/-- the lambda's body in C -/
abbrev CD.lamC (C : CD) (k : Nat) (scope : Scope) (Vs Gs : List Str) (O : Own) (H : Hp) (EL : Exn → Own → Prop) : CD :=
  { C with k := k, sc := scope, Vs := Vs, Ls := [], Gs := Gs, O0 := O, H0 := H, ED := fun x _ O' => EL x O', top := false, lam := none }
/-- its names -/
def lamB (sc scope : Scope) (Vs Gs : List Str) : Bool :=
  LamX.lamSB sc scope && Vs.all (fun x => scope.names.lookup x == some .free && !(x == ("__debug__" : Str)) && !(x == ("__classdict__" : Str))) && Gs.all (fun x => scope.names.lookup x == some .globalImplicit && !(x == ("__debug__" : Str)))
section
variable {C : CD} {X : Cx} {Γ : En} {O : Own} {pins : List (Addr × Obj)} {σ : L2.St} {H : Hp} {s : Shared} {scope : Scope} {Vs Gs : List Str} {k : Nat} {EL : Exn → Own → Prop}
theorem ok_lam (ok : Ok C X) (hB : lamB C.sc scope Vs Gs = true) {A : Around} {outer : List Env} {s1 : Shared} {HZ : Hp} {f c' : Addr} (hr : Room k (A.deeper (LamX.lamEnv X scope s1.heap.objs.size f c'))) (hg : A.guards = some []) :
    Ok (C.lamC k scope Vs Gs O HZ EL) (LamX.lamCx X A outer s1 HZ (fun cls d H' => ∃ x O', EL x O' ∧ OwnOk C.M.K O' H' ∧ Le O HZ O' H' ∧ RepX C.M.K O' H' x cls d) scope f c') := by
  unfold lamB at hB
  simp only [Bool.and_eq_true, List.all_eq_true, Bool.not_eq_true', beq_iff_eq] at hB
  obtain ⟨⟨h1, h2⟩, h3⟩ := hB
  have tk : Takes (LamX.lamCx X A outer s1 HZ (fun cls d H' => ∃ x O', EL x O' ∧ OwnOk C.M.K O' H' ∧ Le O HZ O' H' ∧ RepX C.M.K O' H' x cls d) scope f c') fun cls d σ H => ∃ x Γ O1, (C.lamC k scope Vs Gs O HZ EL).ED x Γ O1 ∧ Sat (C.lamC k scope Vs Gs O HZ EL) Γ O1 σ H ∧ RepX C.M.K O1 H x cls d :=
    (takes_of (E := fun cls d H' => ∃ x O', EL x O' ∧ OwnOk C.M.K O' H' ∧ Le O HZ O' H' ∧ RepX C.M.K O' H' x cls d) rfl rfl rfl rfl).imp fun cls d σ H' ⟨x, Γ, O', q, S', r⟩ => ⟨x, O', q, S'.own, S'.le, r⟩
  exact { prog := ok.prog, w := ok.w, K := ok.K, mg := ok.mg, base := ok.base, N := ok.N, nd := ok.nd, sc := rfl
          vis := fun x hx => ⟨.inr (.inr (h2 x hx).1.1), (h2 x hx).1.2, (h2 x hx).2⟩
          loc := fun x hx => nomatch hx
          gl := fun x hx => ⟨(h3 x hx).1, (h3 x hx).2⟩
          calm := rfl, room := hr, grd := hg
          thr := fun σ EK h pins H s e s' I c => tk e s' (XE.of_call I (fun cls d H' z => h cls d H' z) c)
          own := passes_of rfl, tk := tk, stk := fun z => Bool.noConfusion z, lm := fun c P q z => nomatch z }
/-- a(), in the def that got the lambda -/
theorem we_act {Cg : CD} {Γ' : En} {Q' QL : D → Own → Prop} {Ng : List Str} {qg : Str} {sg : Scope} {g f c' : Addr} {cdg pm ctv : Value} {params : Arguments} {body : Expr} {a : Str} {pn : List (Addr × Obj)} {xe : Value → Shared → Prop} {Eg : XK} {p1 p2 : Pos}
    (ok : Ok C X) (S : Sat C Γ O σ H) (I : Inv X pins σ H s) (hB : lamB C.sc scope Vs Gs = true)
    (hf : s.heap.get? f = some (PySem.W.kla_obj "<lambda>" (X.env.qual ++ "<lambda>") params body scope (cloFrom X.env.cells scope.names []) pm c' ctv)) (hfn : H f = none) (hfr : f ∉ frs X.stack) (hc : H c' = some (LamX.CodeO c' (X.env.qual ++ "<lambda>"))) (nc : ¬ O.has c')
    (hbind : ∀ (q : Str) (cl : List (Str × Addr)) (pm cv ctv : Value), bindArgs (PySem.W.kla_fn "<lambda>" q params body scope cl pm cv ctv) ⟨[], []⟩ = pure [])
    (hM : Cg.M = C.M) (h0 : Cg.O0 = O) (h1 : Cg.H0 = H) (hgG : (X.A.deeper (envOfC qg sg s.heap.objs.size g cdg)).guards = some []) (hr : Room (k + 1) (X.A.deeper (envOfC qg sg s.heap.objs.size g cdg)))
    (hv : a ∈ Cg.Vs) (at_ : At Γ' a (.ref f)) (hN : Cg.N = Ng)
    (hbody : ∀ H' X', DL.WE (C.lamC k scope Vs Gs O H' EL) X' body Γ O QL) (hQ : ∀ d O', QL d O' → Q' d O') (hE : ∀ x O', EL x O' → Cg.ED x Γ' O') :
    DL.WE Cg ((cxOf (L2.CX C.M.P C.M.w) X.prog X.w X.K X.mg X.base Ng qg sg g cdg X.A X.stack s H Eg).tr pn xe) (.Call (.Name a p1) [] [] p2) Γ' O Q' := .mk fun okZ σZ HZ SZ kk hk pinsZ sZ IZ => by
  have L : LamX.LamS X.env.scope scope := by
    rw [ok.sc]
    unfold lamB at hB
    simp only [Bool.and_eq_true] at hB
    exact LamX.lamS_by hB.1.1
  obtain ⟨i, v, e1, e2, e3⟩ := at_.get SZ.sl
  rw [SZ.nm] at e1
  rw [rep_ref] at e3
  subst e3
  have hx := okZ.vis a hv
  refine wpAny_Call_Name_kw (thn ((pe_var (pos := p1) (i := i) (by rw [okZ.N]; exact e1) hx.1 hx.2.1 hx.2.2).run pinsZ sZ σZ HZ (fun v H1 => v = .ref f ∧ H1 = HZ) IZ ⟨.ref f, e2, rfl, rfl⟩) fun u s1 ⟨v, H1, I1, r1, ev, eH⟩ => ?_)
  subst ev
  subst eH
  obtain rfl : u = Value.ref f := r1
  have of1 := I1.base.keep f _ hf hfn hfr (fun z => nomatch (show f ∈ ([] : List Addr) from z))
  refine PySem.W.callWith_F0 ⟨_, _, _, _, of1⟩ ?_
  have un : Un (frs X.stack) [] H H1 s.heap s1.heap := I1.base
  have le : Le O H O H1 := by rw [← h0, ← h1]; have := SZ.le; rw [h0] at this ⊢; exact this
  have hc1 : H1 c' = some (LamX.CodeO c' (X.env.qual ++ "<lambda>")) := le.keep _ _ hc nc
  have hco : ObjOk X.prog X.w H1 s1.heap c' (LamX.CodeO c' (X.env.qual ++ "<lambda>")) := I1.hok c' _ hc1
  obtain ⟨⟨oc, vs, t, hoc, hdc, hvc⟩, _, _⟩ := (show _ ∧ _ ∧ _ from hco)
  have okC : OwnOk C.M.K O H1 := by have := SZ.own; rw [hM] at this; exact this
  have rc : codeAny (model X.prog X.w) (X.A.deeper (envOfC qg sg s.heap.objs.size g cdg)) (.call (.ref f) ⟨[], []⟩) (CR (L2.CX X.prog X.w) (envOfC qg sg s.heap.objs.size g cdg :: X.stack) X.prog X.w H1 s1 kk
      (fun cls d H' => ∃ x O', EL x O' ∧ OwnOk C.M.K O' H' ∧ Le O H1 O' H' ∧ RepX C.M.K O' H' x cls d)) s1 := by
    refine PySem.W.kla_callFunE hr.depth of1 rfl L.co L.gen rfl ⟨c', oc, vs, t, rfl, hoc, hdc, hvc⟩ ?_
    rw [hbind]
    refine wpAny_pure (wpAny_newFunctionEnv (fun y hy => (L.own y hy).2) (fun y hy => absurd hy (by simp)) (fun h₁ hns hsb => ⟨I1.nolimit.fresh _ hsb, ?_⟩) L.kind)
    have kp : ∀ b o, s1.heap.get? b = some o → h₁.get? b = some o := fun b o e => hsb.extBut b o (Nat.ne_of_lt (Heap.lt_size e)) (Heap.get?_push_of_some _ e)
    have J := LamX.lam_start2 (E := fun cls d H' => ∃ x O', EL x O' ∧ OwnOk C.M.K O' H' ∧ Le O H1 O' H' ∧ RepX C.M.K O' H' x cls d) (f := f) (c' := c') (tk := s1.toks + ([] : List (Str × Value)).length) I L I1.env0 hr.hd un hns kp
    have okL := ok_lam (O := O) (EL := EL) (k := k) (outer := envOfC qg sg s.heap.objs.size g cdg :: X.stack) (HZ := H1) (f := f) (c' := c') (s1 := s1) ok hB (hr.deeper _) hgG
    have SL : Sat (C.lamC k scope Vs Gs O H1 EL) Γ O σ H1 := ⟨S.nm, RepSl.le le S.sl, okC, Le.refl _ _⟩
    refine PySem.W.kla_codeExpr (wpAny_mono (hbody H1 _ okL σ H1 SL kk ?_ [] _ J) (fun v s' hq => ?_) fun e s' hq => hq)
    · intro v H' d O' q S' l r
      exact hk v H' d O' (hQ d O' q) (SZ.step l (by have := S'.own; rw [hM]; exact this)) l (by rw [hM]; exact r)
    · obtain ⟨w', H', J', rv, q⟩ := hq
      exact ⟨w', H', J'.os, J'.bare, J'.base, J'.hok, rv, q⟩
  refine wpAny_call (codeAny_mono rc fun r s' hq => ?_)
  match r, hq with
  | .error e, hq =>
    refine okZ.tk e s' (XE.of_call I1 (fun cls d H' z => ?_) hq)
    obtain ⟨x, O', q, w', l', r'⟩ := z
    exact ⟨x, Γ', O', hE x O' q, SZ.step l' (by rw [hM]; exact w'), by rw [hM]; exact r'⟩
  | .ok (.ret u), hq => exact I1.after hq

theorem we_act2 {P : Program} {w : World} {K : PySem.W.Frag} {mg : Str → Option Value} {base : Heap} {Cg : CD} {Γ' : En} {Q' QL : D → Own → Prop} {Ng : List Str} {qg : Str} {sg : Scope} {g f c' : Addr} {cdg pm ctv : Value} {params : Arguments} {body : Expr} {a : Str} {pn : List (Addr × Obj)} {xe : Value → Shared → Prop} {Eg : XK} {p1 p2 : Pos}
    (eP : X.prog = P) (ew : X.w = w) (eK : X.K = K) (em : X.mg = mg) (eb : X.base = base)
    (ok : Ok C X) (S : Sat C Γ O σ H) (I : Inv X pins σ H s) (hB : lamB C.sc scope Vs Gs = true)
    (hf : s.heap.get? f = some (PySem.W.kla_obj "<lambda>" (X.env.qual ++ "<lambda>") params body scope (cloFrom X.env.cells scope.names []) pm c' ctv)) (hfn : H f = none) (hfr : f ∉ frs X.stack) (hc : H c' = some (LamX.CodeO c' (X.env.qual ++ "<lambda>"))) (nc : ¬ O.has c')
    (hbind : ∀ (q : Str) (cl : List (Str × Addr)) (pm cv ctv : Value), bindArgs (PySem.W.kla_fn "<lambda>" q params body scope cl pm cv ctv) ⟨[], []⟩ = pure [])
    (hM : Cg.M = C.M) (h0 : Cg.O0 = O) (h1 : Cg.H0 = H) (hgG : (X.A.deeper (envOfC qg sg s.heap.objs.size g cdg)).guards = some []) (hr : Room (k + 1) (X.A.deeper (envOfC qg sg s.heap.objs.size g cdg)))
    (hv : a ∈ Cg.Vs) (at_ : At Γ' a (.ref f)) (hN : Cg.N = Ng)
    (hbody : ∀ H' X', DL.WE (C.lamC k scope Vs Gs O H' EL) X' body Γ O QL) (hQ : ∀ d O', QL d O' → Q' d O') (hE : ∀ x O', EL x O' → Cg.ED x Γ' O') :
    DL.WE Cg ((cxOf (L2.CX P w) P w K mg base Ng qg sg g cdg X.A X.stack s H Eg).tr pn xe) (.Call (.Name a p1) [] [] p2) Γ' O Q' := by
  subst eP; subst ew; subst eK; subst em; subst eb
  rw [show L2.CX X.prog X.w = L2.CX C.M.P C.M.w by rw [ok.prog, ok.w]]
  exact we_act ok S I hB hf hfn hfr hc nc hbind hM h0 h1 hgG hr hv at_ hN hbody hQ hE
end
/-- the walk of a def that calls what it got and tells what came of it -/
def HearW (M : Md) (j : Nat) (st : Stmt) (N Vs Gs : List Str) (a : Str) (HR : D → D → Prop) (HX : Exn → D → Prop) : Prop :=
  ∀ (f : Addr) (O : Own) (H : Hp) (X : Cx) (QD QL : D → Own → Prop) (EL : Exn → Own → Prop),
    (∀ (pn : List (Addr × Obj)) (xe : Value → Shared → Prop) (ED : Exn → En → Own → Prop) (Γ : En) (Q' : D → Own → Prop) (p1 p2 : Pos), At Γ a (.ref f) → (∀ d O', QL d O' → Q' d O') → (∀ x O', EL x O' → ED x Γ O') →
      DL.WE ((cdOf M j (defScope st) N Vs Gs O H fun _ _ => False).try ED) (X.tr pn xe) (.Call (.Name a p1) [] [] p2) Γ O Q') →
    (∀ d O', QL d O' → ∃ r, HR d r ∧ QD r O') → (∀ x O', EL x O' → ∃ r, HX x r ∧ QD r O') →
    WSs (cdOf M j (defScope st) N Vs Gs O H fun _ _ => False) X (defBody st) (start_ N [.ref f]) O { nx := fun _ O' => QD .non O', rt := QD }
/-- x is such a def of the module -/
def EntH (M : Md) (j : Nat) (x : Str) (HR : D → D → Prop) (HX : Exn → D → Prop) : Prop :=
  ∃ (g : Addr) (st : Stmt) (fd : FuncData) (N Vs Gs : List Str) (a : Str), M.mg x = some (.ref g) ∧ Fun M.K x x st g fd ∧ Sco N Vs [a] Gs (defScope st) ∧ a ∈ Vs ∧ L2.Binds M.K fd [a] [] ∧ HearW M j st N Vs Gs a HR HX
section
variable {C : CD} {X : Cx} {Γ : En} {O : Own} {Q : D → Own → Prop} {x : Str} {j : Nat} {HR : D → D → Prop} {HX : Exn → D → Prop} {scope : Scope} {body : Expr} {params : Arguments} {p pos lpos : Pos} {c P : Addr} {q : Str}
theorem we_heard (E : EntH C.M j x HR HX) (hj : j + 1 ≤ C.k) (h2 : 2 ≤ C.k) (gx : x ∈ C.Gs) (hl : C.lam = some (c, P, q)) (hO : OAt O P (.tab (q ++ "<lambda>"))) (Vs Gs : List Str) (hB : lamB C.sc scope Vs Gs = true) (hdef : ∀ env, defaultsOf params env = ([], []))
    (hbind : ∀ (q : Str) (cl : List (Str × Addr)) (pm cv ctv : Value), bindArgs (PySem.W.kla_fn "<lambda>" q params body scope cl pm cv ctv) ⟨[], []⟩ = pure [])
    (h : ∀ H' X', DL.WE (C.lamC (C.k - 2) scope Vs Gs O H' fun x O' => ∃ r, HX x r ∧ Q r O') X' body Γ O fun d O' => ∃ r, HR d r ∧ Q r O') :
    DL.WE C X (.Call (.Name x p) [.Lambda params body scope lpos] [] pos) Γ O Q := .mk fun ok σ H S k hk pins s I => by
  obtain ⟨g, st, fd, N, Vg, Gg, a, hm, F, Sg, ha, hb, W⟩ := E
  obtain ⟨hcode, hqual, TB⟩ := ok.lm c P q hl
  have TB' : LamX.TabB X.base X.mg c P := by rw [ok.base, ok.mg]; exact TB
  have gl := ok.gl x gx
  have L : LamX.LamS X.env.scope scope := by
    rw [ok.sc]
    have hB' := hB
    unfold lamB at hB'
    simp only [Bool.and_eq_true] at hB'
    exact LamX.lamS_by hB'.1.1
  obtain ⟨ps, hP, htr, hcs⟩ := S.own.at_ P _ hO.mem
  subst hqual
  obtain ⟨oc, od, kV, doc, pm0, an, cdv, ct, osl, rfl, lk, hcd⟩ := F.ex
  refine wpAny_Call_Name_kw (ld_glob I gl.1 (by rw [ok.mg]; exact hm) ?_ gl.2)
  refine PySem.W.callWith_K (h₀ := X.base) I.ok.mod.kin (by rw [ok.K]; exact F.kp) ?_ (by rfl) (by rfl)
  show wpAny _ _ (spliced ((false, eval (.Lambda params body scope lpos) X.env) :: backTo pos (starEach [] X.env))) _ _ s
  refine Calls.spliced_cons (lam_make3 I TB' hcode hP htr (fun pos cv z => ?_) (hdef _) (L.has I.ok) fun f c' pm ctv H1 s' I1 left hf hfn hfr hco => Calls.spliced_nil ⟨I1.kIn, ?_⟩)
  · obtain ⟨d, e1, _, e2⟩ := hcs pos cv z
    exact ⟨d, e1, e2⟩
  obtain ⟨w1, l1, nc⟩ := lam_left S.own hO left hco
  have S1 := S.step l1 w1
  have e0 : Env0 C.M.P C.M.w C.M.K C.M.mg C.M.base X.A X.stack s' H1 := by
    rw [← ok.prog, ← ok.w, ← ok.K, ← ok.mg, ← ok.base]
    exact I1.env0
  have rc : codeAny (model C.M.P C.M.w) X.A (.call (.ref g) ⟨[.ref f], []⟩) (CR (L2.CX C.M.P C.M.w) X.stack C.M.P C.M.w H1 s' k fun _ _ _ => False) s' := by
    refine LamX.run_ofS (N := N) (ps := [a]) (us := [.ref f]) (vs := [.ref f]) (k := C.k - 1) lk hcd Sg.fs (by have := ok.room; rw [show C.k - 1 + 1 = C.k by omega]; exact this) e0 (hb s' [.ref f] (by have := I1.kIn; rw [ok.K] at this; exact this) rfl) (.cons rfl .nil) rfl fun hr' => ?_
    have r1 : Reps C.M.K O.has H1 [D.ref f] [V.ref f] := reps_cons.mpr ⟨_, [], rfl, rep_ref.mpr rfl, reps_nil.mpr rfl⟩
    have hl2 : [D.ref f].length ≤ N.length := by
      have := congrArg List.length Sg.fs.pre
      rw [List.length_take] at this
      simp only [List.length_cons, List.length_nil] at this ⊢
      omega
    obtain ⟨s1', s2⟩ := start_sl hl2 r1
    have walk := W f O H1 (cxOf (L2.CX C.M.P C.M.w) C.M.P C.M.w C.M.K C.M.mg C.M.base N x (defScope st) g cdv X.A X.stack s' H1 fun _ _ _ => False) Q (fun d O' => ∃ r, HR d r ∧ Q r O') (fun x O' => ∃ r, HX x r ∧ Q r O')
      (fun pn xe ED Γ' Q' p1 p2 at_ hQ hE => we_act2 (k := C.k - 2) ok.prog ok.w ok.K ok.mg ok.base ok S1 I1 hB hf hfn hfr hco nc hbind rfl rfl rfl ok.grd (by have := hr'; rw [show C.k - 1 = C.k - 2 + 1 by omega] at this; exact this) ha at_ rfl h hQ hE) (fun _ _ z => z) (fun _ _ z => z)
    refine ⟨_, pss_sws, walk (ok_of (qual := x) (f := g) (cd := cdv) (outer := X.stack) (s := s') Sg (hr'.mono (by omega)) ok.grd fun _ _ _ _ _ z _ _ _ => z) _ H1 ⟨s2, s1', w1, Le.refl _ _⟩ _ ⟨fun σ' H' Γ O' q S' => ?_, fun v H' d O' q w' l' r' => ?_, fun _ _ _ _ q _ => q.elim, fun _ _ _ _ q _ => q.elim⟩⟩
    · exact hk .non H' .non O' q (S1.step S'.le S'.own) (l1.trans S'.le) (rep_non.mpr rfl)
    · exact hk v H' d O' q (S1.step l' w') (l1.trans l') r'
  rw [← ok.prog, ← ok.w] at rc
  refine wpAny_call (codeAny_mono rc fun r s2 hq => ?_)
  match r, hq with
  | .error e, hq =>
    obtain ⟨_, _, _, _, _, _, _, _, _, _, _, _, z⟩ := hq
    exact z.elim
  | .ok (.ret u), hq => exact I1.after hq
end
end DL
namespace DL
open PySem PySem.Spec PyProof.Rows L2

/-! ### a def in which lambdas stand -/
/-- the def at f bears the code object c, whose table is P -/
structure LamAt (M : Md) (f c P : Addr) : Prop where
  code : ∀ oc od fd osl, M.K.lookup f = some ⟨oc, od, .func fd, osl⟩ → fd.code = .ref c
  tab : LamX.TabB M.base M.mg c P
abbrev cdOfL (M : Md) (k : Nat) (sc : Scope) (N Vs Gs : List Str) (O : Own) (H : Hp) (ED : Exn → Own → Prop) (c P : Addr) (q : Str) : CD :=
  { M := M, k := k, sc := sc, N := N, Vs := Vs, Ls := Vs, Gs := Gs, O0 := O, H0 := H, ED := fun x _ O' => ED x O', top := true, lam := some (c, P, q ++ ".<locals>.") }
/-- THE RULE for such a def -/
theorem fn_bodyL {M : Md} {x qual : Str} {st : Stmt} {f c P : Addr} {fd : FuncData} {N Vs ps Gs : List Str} {k : Nat} {T : TF} (F : Fun M.K x qual st f fd) (S : Sco N Vs ps Gs (defScope st)) (LA : LamAt M f c P)
    (len : ∀ ds O Q E, T ds O Q E → ds.length = ps.length)
    (body : ∀ ds O QD ED, T ds O QD ED → ∀ H X, WSs (cdOfL M k (defScope st) N Vs Gs O H ED c P qual) X (defBody st) (start_ N ds) O { nx := fun _ O' => QD .non O', rt := QD }) : FnG M (k + 1) f fd ps (spD M.K T) := by
  obtain ⟨oc, od, kV, doc, pm, an, cdv, ct, osl, rfl, lk, hcd⟩ := F.ex
  have ecd : cdv = .ref c := LA.code _ _ _ _ lk
  subst ecd
  have len' : ∀ vs H Q E, spD M.K T vs H Q E → vs.length = ps.length := fun vs H Q E h => by
    obtain ⟨ds, O, QD, ED, _, r, t, _⟩ := h
    rw [reps_len r, len _ _ _ _ t]
  refine ⟨len', fun A outer s H args us vs Q E hr hg e0 hb rv h => ?_⟩
  have hl := len' _ _ _ _ h
  have KX : M.K.In s.heap := e0.mod.kin.keeps fun b o e => (e0.bs b o e).1
  have lim : s.heap.NoLimit := e0.mod.nolimit.keeps fun b o e => (e0.bs b o e).1
  refine codeAny_call_function hr.depth (KX _ _ lk) rfl S.fs.co S.fs.gen rfl (PySem.W.codeRec_of KX hcd) (hb _ _ _ _ ?_)
  refine wpAny_newFunctionEnv_cells S.fs.kind (fun ⟨n, v⟩ hy => ?_) fun env he s1 x => ?_
  · rcases S.fs.par n (List.of_mem_zip hy).1 with q | q
    · exact .inl q
    · exact .inr ⟨q, PySem.W.cellsFrom_some _ _ _ (.inl q)⟩
  subst he
  refine ⟨lim.keeps x.toInCall.keep, codeAny_func ?_⟩
  obtain ⟨ds, O, QD, ED, w, r, t, hQ, hE⟩ := h
  have hl2 : ds.length ≤ N.length := by
    rw [len _ _ _ _ t]
    have := congrArg List.length S.fs.pre
    rw [List.length_take] at this
    omega
  obtain ⟨s1', s2⟩ := start_sl hl2 r
  have I : Inv (cxOf (L2.CX M.P M.w) M.P M.w M.K M.mg M.base N qual (defScope st) f (.ref c) A outer s H E) [] (L2.start N vs) H s1 := inv_start S.fs hr.hd e0 hl rv x
  have ok0 := ok_of (qual := qual) (f := f) (cd := .ref c) (outer := outer) (s := s) (M := M) (N := N) (Vs := Vs) (ps := ps) (Gs := Gs) (scope := defScope st) (A := A) (H := H) (E := E) (k := k) (O := O) (ED := ED) S (hr.deeper _) hg hE
  have okL : Ok (cdOfL M k (defScope st) N Vs Gs O H ED c P qual) (cxOf (L2.CX M.P M.w) M.P M.w M.K M.mg M.base N qual (defScope st) f (.ref c) A outer s H E) :=
    { prog := ok0.prog, w := ok0.w, K := ok0.K, mg := ok0.mg, base := ok0.base, N := ok0.N, nd := ok0.nd, sc := ok0.sc, vis := ok0.vis, loc := ok0.loc, gl := ok0.gl, calm := ok0.calm, room := ok0.room, grd := ok0.grd
      thr := fun σ EK h => ok0.thr σ EK fun cls d H z => by
        obtain ⟨x, Γ, O', q, S', r⟩ := h cls d H z
        exact ⟨x, Γ, O', q, S'.cv rfl rfl rfl rfl, r⟩
      own := ok0.own
      tk := ok0.tk.imp fun cls d σ H ⟨x, Γ, O', q, S', r⟩ => ⟨x, Γ, O', q, S'.cv rfl rfl rfl rfl, r⟩
      stk := ok0.stk
      lm := fun c' P' q' z => by
        cases z
        exact ⟨rfl, rfl, LA.tab⟩ }
  have run := body ds O QD ED t H _ okL _ H ⟨s2, s1', w, Le.refl _ _⟩ { nx := fun _ H' => Q .non H', rt := Q } ⟨fun σ' H' Γ O' q S' => hQ .non H' .non O' q S'.own S'.le (rep_non.mpr rfl), fun v H' d O' q w' l' r' => hQ v H' d O' q w' l' r', fun _ _ _ _ q _ => q.elim, fun _ _ _ _ q _ => q.elim⟩
  refine wpAny_mono (run [] s1 I) (fun fl s' hs => ?_) fun e s' hs => hs
  match fl, hs with
  | .ret u, ⟨v, σ', H', J, rv', q⟩ => exact ⟨v, H', J.os, J.bare, J.base, J.hok, rv', q⟩
  | .next, ⟨σ', H', J, q⟩ => exact ⟨V.non, H', J.os, J.bare, J.base, J.hok, rfl, q⟩
  | .brk, ⟨_, _, _, q⟩ => exact False.elim q
  | .cont, ⟨_, _, _, q⟩ => exact False.elim q
/-! ### the law's end with tables -/
def TLawT (ts : List (Addr × Str)) (n : Nat) : TF := fun ds O QD _ => ∃ ns : List Int, ds = [.klst (ns.map .int)] ∧ O = ts.map (fun p => (p.1, OD.tab p.2)) ∧ ns.length ≤ n ∧ (∀ O', QD (.bl true) O')
theorem law_endT {M : Md} {k n : Nat} {a fa : Addr} {fd : FuncData} {x : Str} {mb : Str → Option Value} {s : Shared} {its : List Value} {ns : List Int} {cs : List (Addr × Addr × Str)} (KX : M.K.In s.heap) (hns : s.heap.Ns mainGlobals M.mg) (hb : s.heap.Ns builtinsNs mb)
    (hbb : ∀ x : Str, x ≠ "__name__" → mb x = bootBuiltins x) (hlim : s.heap.NoLimit) (hg : s.gens = #[]) (hT : ∀ p ∈ cs, s.heap.get? p.2.1 = some { cls := .none, data := .fields #[] }) (nT : ∀ p ∈ cs, M.K.lookup p.2.1 = none) (hnd : (cs.map (·.2.1)).Nodup) (hC : ∀ p ∈ cs, PySem.W.CodeHd s.heap p.1 p.2.1)
    (hbm : ∃ (bm : Addr) (ob : Obj), M.mg "__builtins__" = some (.ref bm) ∧ bm ≠ builtinsNs ∧ s.heap.get? bm = some ob ∧ ob.cls = .type "module" ∧ ob.dict = some builtinsNs ∧ ob.data = .plain)
    (ha : s.heap.get? a = some { cls := .type "list", data := .seq its.toArray }) (hi : IntsAre its ns) (hl : ns.length ≤ n) (hn : n ≤ sizeLine) (hr : Room k callerA)
    (F : ∀ base : Heap, M.K.In base → base.Ns mainGlobals M.mg → (∀ p ∈ cs, LamX.TabB base M.mg p.1 p.2.1) → FnG { M with base := base } k fa fd [x] (spD M.K (TLawT (cs.map fun p => (p.2.1, p.2.2)) n))) (hbd : ∀ (s : Shared) (u : Value), BindsTo s fd ⟨[u], []⟩ [(x, u)]) :
    codeAny (model M.P M.w) callerA (.call (.ref fa) ⟨[.ref a], []⟩) (fun r s' => r = .ok (.ret (.bool true)) ∧ OldK s.heap s'.heap ∧ s'.os = s.os ∧ AllBare s'.gens) s := by
  have r : Vals (ns.map V.int) its := vals_ints hi
  obtain ⟨H0, en⟩ := entry_of (xs := ns.map V.int) KX ha r (by rw [List.length_map]; exact Nat.le_trans hl hn)
  have isT : ∀ b, b ∈ cs.map (·.2.1) → s.heap.get? b = some { cls := .none, data := .fields #[] } := fun b h => by
    obtain ⟨p, hp, e⟩ := List.mem_map.mp h
    rw [← e]; exact hT p hp
  have aT : a ∉ cs.map (·.2.1) := fun z => by
    have q := isT a z
    rw [ha] at q
    exact nomatch congrArg Obj.data (Option.some.inj q)
  let H : Hp := fun b => if b ∈ cs.map (·.2.1) then some (.tbl #[]) else H0 b
  have hHt : ∀ b, b ∈ cs.map (·.2.1) → H b = some (.tbl #[]) := fun b h => if_pos h
  have hHo : ∀ b, b ∉ cs.map (·.2.1) → H b = H0 b := fun b h => if_neg h
  have only : ∀ b, H b ≠ none → b = a ∨ b ∈ cs.map (·.2.1) := fun b h => by
    by_cases hb : b ∈ cs.map (·.2.1)
    · exact .inr hb
    · rw [hHo b hb] at h; exact .inl (en.only b h)
  -- an object of the old heap that is neither a list nor a table
  have nd : ∀ (b : Addr) (o : Obj), s.heap.get? b = some o → (∀ v m, o.data ≠ .seq v m) → o.data ≠ .fields #[] → H b = none := fun b o e d1 d2 => by
    cases q : H b with
    | none => rfl
    | some u =>
      rcases only b (by rw [q]; exact fun z => by cases z) with z | z
      · subst z
        exact absurd (congrArg Obj.data (Option.some.inj (e.symm.trans ha))) (d1 _ _)
      · exact absurd (congrArg Obj.data (Option.some.inj (e.symm.trans (isT b z)))) d2
  have ns' : ∀ (b : Addr) (m : Str → Option Value), s.heap.Ns b m → (hidT s.heap H).Ns b m := fun b m ⟨o, es, ep, e, d, q⟩ => ⟨o, es, ep, hidT_get e (nd b o e (fun _ _ z => by rw [d] at z; cases z) (fun z => by rw [d] at z; cases z)), d, q⟩
  have K' : M.K.In (hidT s.heap H) := fun b o e => by
    refine hidT_get (KX b o e) ?_
    cases q : H b with
    | none => rfl
    | some u =>
      rcases only b (by rw [q]; exact fun z => by cases z) with z | z
      · subst z
        rw [hHo b aT] at q
        rcases en.what with w | ⟨_, w⟩
        · rw [w] at q; cases q
        · rw [w] at e; cases e
      · obtain ⟨p, hp, ep⟩ := List.mem_map.mp z
        rw [← ep, nT p hp] at e; cases e
  have hok : HOk M.P M.w H s.heap := fun b u q => by
    by_cases hbT : b ∈ cs.map (·.2.1)
    · rw [hHt b hbT] at q; cases q
      exact isT b hbT
    rw [hHo b hbT] at q
    have := en.only b (by rw [q]; exact fun z => by cases z)
    subst this
    rcases en.what with w | ⟨w, _⟩
    · rw [w] at q; cases q
    · rw [w] at q; cases q
      exact ⟨ha, by rw [List.length_map]; exact Nat.le_trans hl hn, its, 0, r, ha⟩
  have TB : ∀ p ∈ cs, LamX.TabB (hidT s.heap H) M.mg p.1 p.2.1 := fun p hp => by
    refine ⟨?_, ?_, fun z => ?_⟩
    · obtain ⟨o, us, file, tf, flags, tg, inF, text, tt, e1, r1, r2, r3, r4, r5, r6, r7, r8, hne⟩ := hC p hp
      exact ⟨o, us, file, tf, flags, tg, inF, text, tt, hidT_get e1 (nd _ _ e1 (fun vs n z => by rw [r2] at z; cases z) fun z => by rw [r2] at z; cases z; simp at r3), r1, r2, r3, r4, r5, r6, r7, r8, hne⟩
    · obtain ⟨bm, ob, b1, b2, b3, b4, b5, b6⟩ := hbm
      refine ⟨bm, ob, b1, b2, fun q => ?_, fun q => ?_, hidT_get b3 (nd _ _ b3 (fun vs n z => by rw [b6] at z; cases z) fun z => by rw [b6] at z; cases z), b4, b5, b6⟩
      · obtain ⟨o, es, ep, e, hd, _⟩ := hns
        rw [q, e] at b3; cases b3
        rw [hd] at b6; cases b6
      · rw [q, hT p hp] at b3; cases b3
        cases b6
    · obtain ⟨o, es, ep, e, hd, _⟩ := hns
      rw [z, hT p hp] at e; cases e
      cases hd
  have e0 : Env0 M.P M.w M.K M.mg (hidT s.heap H) callerA [] s H :=
    { frames := rfl, mod := ⟨K', ns' _ _ hns, ⟨mb, ns' _ _ hb, hbb⟩, let ⟨mc, q1, q2⟩ := hlim; ⟨mc, ns' _ _ q1, q2⟩⟩, bs := fun b o e => of_hidT e, bsz := Nat.le_of_eq (hidT_size _ _), funs := trivial, frf := fun b q => (by cases q), hok := hok, bare := .of_eq hg }
  let O : Own := (cs.map fun p => (p.2.1, p.2.2)).map fun p => (p.1, OD.tab p.2)
  have keys : O.map (·.1) = cs.map (·.2.1) := by simp [O, Function.comp_def]
  have wO : OwnOk M.K O H := ⟨by rw [keys]; exact hnd, fun b od h => by
    have hb : b ∈ cs.map (·.2.1) := by rw [← keys]; exact List.mem_map.mpr ⟨_, h, rfl⟩
    obtain ⟨p, _, e⟩ := List.mem_map.mp h
    cases e
    exact ⟨#[], hHt _ hb, True.intro, fun pos cv z => by simp [codeAmong] at z⟩⟩
  have sp : spD M.K (TLawT (cs.map fun p => (p.2.1, p.2.2)) n) [.ref a] H (fun v _ => v = .bl true) fun _ _ _ => False := by
    refine ⟨[.klst (ns.map .int)], O, fun d _ => d = .bl true, fun _ _ => False, wO, ?_, ⟨ns, rfl, rfl, hl, fun _ => rfl⟩, fun v H' d O' q _ _ r' => ?_, fun _ _ _ _ _ q _ _ _ => q⟩
    · rw [reps_cons]
      refine ⟨_, [], rfl, ?_, reps_nil.mpr rfl⟩
      simp only [Rep]
      refine ⟨a, ns.map V.int, rfl, ?_, reps_ints.mpr rfl⟩
      have eH : H a = H0 a := hHo a aT
      rcases en.seen with q | q
      · refine .inl ⟨fun z => aT (by rw [← keys]; exact z), ?_⟩
        rcases q with q | ⟨o, q⟩
        · exact .inl (eH.trans q)
        · exact .inr ⟨o, eH.trans q⟩
      · exact .inr q
    · subst q
      exact rep_bl.mp r'
  refine codeAny_mono ((F _ K' (ns' _ _ hns) TB).run callerA [] s H ⟨[.ref a], []⟩ [.ref a] [.ref a] _ _ hr rfl e0 (hbd s (.ref a)) (.cons rfl .nil) sp) fun res s' q => ?_
  match res, q with
  | .error e, q =>
    obtain ⟨_, _, _, _, _, _, _, _, _, _, _, _, z⟩ := q
    exact z.elim
  | .ok (.ret u), q =>
    obtain ⟨v, H', os, bare, un, hok', rv, qv⟩ := q
    subst qv
    obtain rfl : u = Value.bool true := rv
    have key : ∀ b o, b ∉ cs.map (·.2.1) → s.heap.get? b = some o → s'.heap.get? b = some o := fun b o nb e => by
      cases z : H b with
      | none => exact un.keep b o e z (fun q => by cases q) (fun q => by cases q)
      | some t =>
        rcases only b (by rw [z]; exact fun q => by cases q) with w0 | w0
        · subst w0
          rw [hHo b nb] at z
          rcases en.what with w | ⟨w, _⟩
          · rw [w] at z; cases z
          · have hz : H b = some (.frz { cls := .type "list", data := .seq its.toArray } (.lst (ns.map V.int))) := by rw [hHo b nb]; exact w
            obtain ⟨e2, _⟩ := hok' b _ (un.frzs b _ _ hz)
            rw [ha] at e; cases e
            exact e2
        · exact absurd w0 nb
    have grown : ∀ p ∈ cs, ∃ more : Array Value, s'.heap.get? p.2.1 = some { cls := .none, data := .fields more } := fun p hp => by
      obtain ⟨more, z⟩ := un.tbls p.2.1 #[] (hHt _ (List.mem_map.mpr ⟨p, hp, rfl⟩))
      exact ⟨_, hok' p.2.1 _ z⟩
    refine ⟨rfl, ⟨fun b o e => ?_, fun b o e => ?_⟩, os, bare⟩
    · by_cases hb2 : b ∈ cs.map (·.2.1)
      · obtain ⟨p, hp, ep⟩ := List.mem_map.mp hb2
        obtain ⟨more, hm⟩ := grown p hp
        rw [← ep] at e ⊢
        rw [hT p hp] at e
        cases e
        exact .inr (.inl ⟨((hC p hp).tab (hT p hp)).isCodeTable, rfl, #[], more, rfl, (by rw [Array.empty_append]; exact hm)⟩)
      · exact .inl (key b o hb2 e)
    · by_cases hb2 : b ∈ cs.map (·.2.1)
      · obtain ⟨p, hp, ep⟩ := List.mem_map.mp hb2
        obtain ⟨more, hm⟩ := grown p hp
        rw [← ep]
        exact ⟨_, hm⟩
      · exact ⟨o, key b o hb2 e⟩
/-- walk_G with tables -/
theorem walk_GT {l : PySem.W.OpenLaw} {n k : Nat} {q : Program} {loose : List Str} {XP : (Str → Option Value) → Heap → Prop} {YP : World → Heap → Prop} {d : DefRec} {K : Params → PySem.W.Frag} {x : Str} {ts : List Addr}
    (hn : l.most = some n) (hn2 : n ≤ sizeLine) (hdf : d.params.defaults = []) (hr : Room k callerA) (hY : ∀ (w : World) (h : Heap), YP w h → (K w.params).In h) (hY2 : ∀ (w : World) (h : Heap), YP w h → ∀ P ∈ ts, h.get? P = some { cls := .none, data := .fields #[] })
    (F : ∀ (w : World) (mg : Str → Option Value) (fa : Addr) (h : Heap), (K w.params).In h → h.Ns mainGlobals mg → XP mg h → mg d.name = some (.ref fa) →
      ∃ (fd : FuncData) (cs : List (Addr × Addr × Str)), (∀ p ∈ cs, p.2.1 ∈ ts ∧ (K w.params).lookup p.2.1 = none ∧ PySem.W.codeHdIn (K w.params) p.1 p.2.1 = true) ∧ (cs.map (·.2.1)).Nodup ∧ (∀ (s : Shared) (u : Value), BindsTo s fd ⟨[u], []⟩ [(x, u)]) ∧
        ∀ base : Heap, (K w.params).In base → base.Ns mainGlobals mg → (∀ p ∈ cs, LamX.TabB base mg p.1 p.2.1) → FnG ⟨l.prog, w, K w.params, mg, base⟩ k fa fd [x] (spD (K w.params) (TLawT (cs.map fun p => (p.2.1, p.2.2)) n))) :
    PySem.W.WalkO q loose XP YP l.row.toRowW d [] (fun f vs => PySem.call f vs) := by
  refine Att.attach_callB hn hdf fun w s₀ s₁ mg mb fa o pm cd doc a vs ns G Y ho hd hcd hmg hobj hints hlen hbits hg => ?_
  have KX := hY w _ Y
  obtain ⟨fd, cs, hc, hnd, hb, hF⟩ := F w mg fa _ KX G.T.g G.X hmg
  exact law_endT (M := ⟨l.prog, w, K w.params, mg, s₁.heap⟩) (cs := cs) KX G.T.g G.T.b G.T.builtins G.T.nolimit hg (fun p hp => hY2 w _ Y _ (hc p hp).1) (fun p hp => (hc p hp).2.1) hnd (fun p hp => PySem.W.codeHd_of_K KX (hc p hp).2.2) G.T.bmain hobj hints hlen hn2 hr hF hb
end DL
namespace DL
open PySem PySem.Spec PyProof.Rows L2

/-! ### repr of data -/
/-- what repr shows: data without dicts, the empty dict -/
def D.pd : D → PyData
  | .dct [] => .dict []
  | d => d.py
def D.isRp : D → Bool
  | .dct [] => true
  | d => d.isPy
/-- repr(d) may be asked -/
structure Rp (d : D) : Prop where
  is : d.isRp = true
  show_ : d.pd.showable = true
  deep : d.pd.depth ≤ 50
  len : d.pd.shown.length ≤ sizeLine
section
variable {C : CD} {X : Cx} {Γ : En} {O : Own} {Q : D → Own → Prop}
theorem rep_reads {d : D} {v : V} {u : Value} {pins : List (Addr × Obj)} {σ : L2.St} {H : Hp} {s : Shared} (ok : Ok C X) (h : d.isRp = true) (r : Rep C.M.K O.has H d v) (I : Inv X pins σ H s) (rv : RelV v u) : ∃ as, Reads s.heap u d.pd as ∧ (d.pd.hasDict = true → sysModules ∉ as) := by
  have base : d.isPy = true → d.pd = d.py → ∃ as, Reads s.heap u d.pd as ∧ (d.pd.hasDict = true → sysModules ∉ as) := fun h1 h2 => by
    have q := Rep.dp h1 r
    rw [← ok.K] at q
    obtain ⟨as, ha⟩ := Dp.reads I d.py v u q rv
    rw [h2]
    exact ⟨as, ha, fun z => by rw [py_noDict] at z; cases z⟩
  cases d with
  | dct kvs =>
    cases kvs with
    | cons p r => exact base h rfl
    | nil =>
      simp only [Rep] at r
      obtain ⟨a, ws, rfl, _, e, rk⟩ := r
      simp only [RepK] at rk
      subst rk
      obtain rfl : u = Value.ref a := rv
      obtain ⟨_, hsm, vs, hk, o, es, ep, h1, h2, h3, h4, h5⟩ := (show ObjOk X.prog X.w H s.heap a (.dK []) from I.hok a _ e)
      cases hk
      obtain ⟨hp, _⟩ := h5
      have e0 : es.toList = [] := by
        generalize es.toList = l at hp
        cases hp
        rfl
      refine ⟨_, Reads.dict (kvs := []) h1 h2.1 h3 (by rw [e0]; exact ReadsAll.nil) (by rw [e0]; exact ReadsAll.nil), fun _ z => ?_⟩
      have e1 : sysModules = a := List.mem_singleton.mp (show sysModules ∈ [a] from z)
      rw [← e1, beq_self_eq_true] at hsm
      cases hsm
  | _ => exact base h rfl

theorem bf_repr {d : D} (h : Rp d) (q : Q (.str d.pd.shown) O) : BF C (.builtin "repr") [d] Γ O Q := .mk fun X ok σ H S vs rv0 k hk pins s us I r => by
  obtain ⟨v, rfl, r1⟩ := reps1 rv0
  obtain ⟨u, rfl, ru⟩ := vals1 r
  have hq := hk.at q S (rep_str.mpr rfl)
  obtain ⟨as, ha, hsm⟩ := rep_reads ok h.is r1 I ru
  have hs := h.show_
  have hz := h.len
  have fin : ∀ (tk : Tok) (s' : Shared), Inv X pins σ H s' → EP X pins σ k (.str d.pd.shown tk) s' := fun tk s' J => ⟨.str d.pd.shown, H, J, ⟨tk, rfl⟩, hq⟩
  have go : ∀ (e : PyData), d.pd = e → wpAny (model X.prog X.w) X.A (call (.builtin "repr") [u]) (EP X pins σ k) X.xe s := fun e he => by
    rw [he] at ha hs hz fin hsm
    cases ha with
    | none => exact PySem.P.repr_of_none (fin _ _ (I.tok _))
    | bool b => exact PySem.P.repr_of_bool (fin _ _ (I.tok _))
    | int i t => exact PySem.P.repr_of_int (by simpa [PyData.showable] using hs) (fin _ _ (I.tok _))
    | str x t => exact PySem.P.repr_of_str (fin _ _ (I.tok _)) hz
    | list h1 h2 h3 h4 =>
      have hd := h.deep
      rw [he] at hd
      exact repr_of_reads' (.list h1 h2 h3 h4) hs hsm ok.grd (by have := ok.room.units; omega) (fun _ _ e => e) (fun h' u tk kp => fin _ _ (I.kept (t' := tk) kp)) hz
    | tuple h1 h2 h3 h4 =>
      have hd := h.deep
      rw [he] at hd
      exact repr_of_reads' (.tuple h1 h2 h3 h4) hs hsm ok.grd (by have := ok.room.units; omega) (fun _ _ e => e) (fun h' u tk kp => fin _ _ (I.kept (t' := tk) kp)) hz
    | dict h1 h2 h3 h4 h5 =>
      have hd := h.deep
      rw [he] at hd
      exact repr_of_reads' (.dict h1 h2 h3 h4 h5) hs hsm ok.grd (by have := ok.room.units; omega) (fun _ _ e => e) (fun h' u tk kp => fin _ _ (I.kept (t' := tk) kp)) hz
  exact go _ rfl
end
/-- numbers of few figures -/
theorem log_of {i : Int} (h : i.natAbs < 2 ^ 1920) : i.natAbs.log2 < 1920 := by
  by_cases z : i.natAbs = 0
  · rw [z]; decide
  · exact (Nat.log2_lt z).mpr h

/-! ### when repr may be asked -/
mutual
/-- ints of at most k figures, texts of at most 40 signs -/
def PSm (k : Nat) : PyData → Prop
  | .int i => i.natAbs < 10 ^ k
  | .str x => x.cps.size ≤ 40 ∧ ∀ c ∈ x.cps.toList, c < 16 ^ 8
  | .list xs => PSmAll k xs
  | .tuple xs => PSmAll k xs
  | .dict kvs => kvs = []
  | _ => True
def PSmAll (k : Nat) : List PyData → Prop
  | [] => True
  | x :: xs => PSm k x ∧ PSmAll k xs
end
mutual
def pcnt : PyData → Nat
  | .list xs => pcntAll xs + 1
  | .tuple xs => pcntAll xs + 1
  | _ => 1
def pcntAll : List PyData → Nat
  | [] => 0
  | x :: xs => pcnt x + pcntAll xs + 1
end
theorem ten_two (k : Nat) : 10 ^ k ≤ 2 ^ (4 * k) := by
  rw [Nat.pow_mul]
  exact Nat.pow_le_pow_left (by decide) k
mutual
theorem psm_short {k : Nat} (hk : 0 < k) : ∀ d : PyData, PSm k d → d.leavesShort (k + 8) = true
  | .none, _ => rfl
  | .bool _, _ => rfl
  | .int i, h => by
    have h : i.natAbs < 10 ^ k := h
    have := int_text_length_le10 hk h
    refine decide_eq_true (p := (Str.ofString (toString i)).length ≤ k + 8) ?_
    rw [PySem.ofString_length]
    omega
  | .str x, h => by
    simp only [PyData.leavesShort, List.all_eq_true, decide_eq_true_eq]
    exact h.2
  | .list xs, h => by simp only [PyData.leavesShort]; exact psm_shortAll hk xs h
  | .tuple xs, h => by simp only [PyData.leavesShort]; exact psm_shortAll hk xs h
  | .dict kvs, h => by
    have h : kvs = [] := h
    subst h
    rfl
theorem psm_shortAll {k : Nat} (hk : 0 < k) : ∀ ds : List PyData, PSmAll k ds → PyData.leavesShortAll (k + 8) ds = true
  | [], _ => rfl
  | x :: xs, h => by simp only [PyData.leavesShortAll, Bool.and_eq_true]; exact ⟨psm_short hk x h.1, psm_shortAll hk xs h.2⟩
end
mutual
theorem psm_show {k : Nat} (hk : k ≤ 480) : ∀ d : PyData, PSm k d → d.showable = true
  | .none, _ => rfl
  | .bool _, _ => rfl
  | .int i, h => by
    have h : i.natAbs < 10 ^ k := h
    simp only [PyData.showable, decide_eq_true_eq]
    exact log_of (Nat.lt_of_lt_of_le h (Nat.le_trans (ten_two k) (Nat.pow_le_pow_right (by decide) (by omega))))
  | .str x, _ => rfl
  | .list xs, h => by simp only [PyData.showable]; exact psm_showAll hk xs h
  | .tuple xs, h => by simp only [PyData.showable]; exact psm_showAll hk xs h
  | .dict kvs, h => by
    have h : kvs = [] := h
    subst h
    rfl
theorem psm_showAll {k : Nat} (hk : k ≤ 480) : ∀ ds : List PyData, PSmAll k ds → PyData.showableAll ds = true
  | [], _ => rfl
  | x :: xs, h => by simp only [PyData.showableAll, Bool.and_eq_true]; exact ⟨psm_show hk x h.1, psm_showAll hk xs h.2⟩
end
mutual
theorem psm_weight {k : Nat} : ∀ d : PyData, PSm k d → d.weight ≤ (4 * k + 42) * pcnt d
  | .none, _ => Nat.zero_le _
  | .bool _, _ => Nat.zero_le _
  | .int i, h => by
    have h : i.natAbs < 10 ^ k := h
    simp only [PyData.weight, pcnt]
    split
    · omega
    · rename_i z
      have hz : i.natAbs ≠ 0 := fun e => z (by simpa using Int.natAbs_eq_zero.mp e)
      have := (Nat.log2_lt hz).mpr (Nat.lt_of_lt_of_le h (ten_two k))
      omega
  | .str x, h => by
    have := h.1
    simp only [PyData.weight, pcnt]
    omega
  | .list xs, h => by
    have := psm_weightAll xs h
    simp only [PyData.weight, pcnt, Nat.mul_add]
    omega
  | .tuple xs, h => by
    have := psm_weightAll xs h
    simp only [PyData.weight, pcnt, Nat.mul_add]
    omega
  | .dict kvs, h => by
    have h : kvs = [] := h
    subst h
    exact Nat.zero_le _
theorem psm_weightAll {k : Nat} : ∀ ds : List PyData, PSmAll k ds → PyData.weightAll ds ≤ (4 * k + 42) * pcntAll ds
  | [], _ => Nat.zero_le _
  | x :: xs, h => by
    have h1 := psm_weight x h.1
    have h2 := psm_weightAll xs h.2
    simp only [PyData.weightAll, pcntAll, Nat.mul_add]
    omega
end
theorem rp_of {d : D} (h : PSm 64 d.pd) (hi : d.isRp = true) (hd : d.pd.depth ≤ 50) (hc : pcnt d.pd ≤ 700) : Rp d := by
  refine ⟨hi, psm_show (by decide) _ h, hd, ?_⟩
  have h1 := PyData.shown_le 72 (by decide) d.pd (psm_short (by decide) _ h)
  have h2 := psm_weight _ h
  have h3 : (4 * 64 + 42) * pcnt d.pd ≤ 298 * 700 := Nat.mul_le_mul_left _ hc
  rw [sizeLine_eq]
  omega
theorem psmAll_ints {k : Nat} : ∀ {ns : List Int}, (∀ n ∈ ns, n.natAbs < 10 ^ k) → PSmAll k (ns.map .int)
  | [], _ => True.intro
  | n :: ns, h => ⟨h n List.mem_cons_self, psmAll_ints fun m hm => h m (List.mem_cons_of_mem _ hm)⟩
theorem pcnt_ints : ∀ {ns : List Int}, pcntAll (ns.map .int) = 2 * ns.length
  | [] => rfl
  | n :: ns => by simp only [List.map_cons, pcntAll, pcnt, pcnt_ints (ns := ns), List.length_cons]; omega
theorem rp_ints {ns : List Int} (h : ∀ n ∈ ns, n.natAbs < 10 ^ 64) (hl : ns.length ≤ 300) : Rp (.lst (ns.map .int)) := by
  have e : (D.lst (ns.map .int)).pd = .list (ns.map .int) := by show PyData.list (D.pys (ns.map .int)) = _; rw [pys_ints]
  refine rp_of ?_ (by show D.arePy (ns.map .int) = true; exact arePy_ints ns) ?_ ?_
  · rw [e]; exact psmAll_ints h
  · rw [e]
    have := depthAll_ints ns
    simp only [PyData.depth]
    omega
  · rw [e]
    simp only [pcnt, pcnt_ints]
    omega
end DL
namespace DL
open PySem PySem.Spec PyProof.Rows L2

/-! ### keywords, tables -/
def EntMK (M : Md) (j : Nat) (Cl : Addr) (m : Str) (ks : List Str) (T : TF) : Prop := ∃ f, Meth M.K Cl m f ∧ DfK M j f ks T
/-- the last parameters given by keywords -/
theorem FnG.dfk {M : Md} {j : Nat} {f : Addr} {fd : FuncData} {ps ks : List Str} {T : TF} (F : FnG M j f fd ps (spD M.K T)) (kp : PySem.W.keepIn M.K (.ref f) = true)
    (hb : ∀ (s : Shared) (us ws : List Value), us.length = ps.length - ks.length → ws.length = ks.length → BindsTo s fd ⟨us, ks.zip ws⟩ (ps.zip (us ++ ws))) : DfK M j f ks T := by
  refine ⟨fun A outer s H us ws vs Q E hr hg e0 rv hl h => ?_, kp⟩
  have e := F.len _ _ _ _ h
  have e2 := rv.length
  rw [List.length_append] at e2
  exact F.run A outer s H ⟨us, ks.zip ws⟩ (us ++ ws) vs Q E hr hg e0 (hb s us ws (by omega) hl) rv h
/-- the table of a code object -/
def tabIn (K : PySem.W.Frag) (c : Addr) : Option Addr := match K.lookup c with
  | some ⟨_, _, .fields vs, _⟩ => (match (vs[11]? : Option Value) with
    | some (.ref P) => some P
    | _ => none)
  | _ => none
section
variable {C : CD} {X : Cx} {Γ : En} {O : Own} {Q : D → Own → Prop} {e o : Expr} {es : List Expr} {kws : List Keyword} {pos p : Pos} {m : Str} {j : Nat} {T : TF} {Cl : Addr} {pl : Env → Sem Bool}
/-- o.m(k = v, ..) -/
theorem we_mthK {ks : List Str} (E : EntMK C.M j Cl m ks T) (hc : Cls C.M.K Cl) (hj : j + 1 ≤ C.k) (hb : MethNode o m p pos [] kws pl) (hall : ∀ env, (backToKw pos (keywordEach kws env)).all (·.1.isSome) = true) (hks : ∀ env, (backToKw pos (keywordEach kws env)).filterMap (·.1) = ks)
    (hpl : ∀ env, ((backTo pos (starEach [] env)).any (·.1) || (backToKw pos (keywordEach kws env)).any (·.1.isNone)) = false)
    (h : DL.WE C X o Γ O fun d O1 => ∃ fs, Ins O1 d Cl fs ∧ fs.lookup m = none ∧ WK C X kws Γ O1 fun zs O3 => zs.length = ks.length ∧ T ([d] ++ zs) O3 Q fun x O' => C.ED x Γ O') : DL.WE C X (.Call (.Attribute o m p) [] kws pos) Γ O Q := by
  obtain ⟨f, mt, F⟩ := E
  refine we_methK0 ks hb hall hks hpl (we_imp h fun d O1 ⟨fs, i, no, q⟩ => ⟨Cl, fs, f, i, hc, mt, no, .mk fun ok σ H S k hk => q ok σ H S k fun vs H' ds O' ⟨q1, q2⟩ S' l r => hk vs H' ds O' ⟨q1, cb_dfk F hj q2⟩ S' l r⟩)
end
section
variable {C : CD} {X : Cx} {Γ : En} {O : Own} {Q : D → Own → Prop} {QA : List D → Own → Prop} {pos : Pos} {x : Str} {a : Addr} {kws : List Keyword} {N : De} {st : Stmt}
/-- a class of the module, by its name -/
theorem wn_cls (h : C.M.mg x = some (.ref a)) (g : x ∈ C.Gs) (q : Q (.ref a) O) : DL.WE C X (.Name x pos) Γ O Q := we_glob g (Gv.ref h) q
theorem kK (h : WK C X kws Γ O QA) : WK C X kws Γ O QA := h
theorem kS (h : WS C X st Γ O N) : WS C X st Γ O N := h
theorem kC {P : En → Own → Prop} {rt : D → Own → Prop} {bk ct : En → Own → Prop} (h : WS C X st Γ O ⟨P, rt, bk, ct⟩) : WS C X st Γ O ⟨P, rt, bk, ct⟩ := h
end
/-! ### any values -/
/-- the name of the type of data -/
def D.tyN : D → Option String
  | .non => some "NoneType"
  | .bl _ => some "bool"
  | .int _ => some "int"
  | .str _ => some "str"
  | .lst _ => some "list"
  | .tup _ => some "tuple"
  | .dct _ => some "dict"
  | _ => none
theorem tyD_of {K : PySem.W.Frag} {O : Own} {d : D} {n : String} (h : d.tyN = some n) : TyD K O d (.type n) := by
  cases d <;> simp only [D.tyN, Option.some.injEq, reduceCtorEq] at h <;> subst h <;> constructor
def D.isI : D → Bool
  | .int _ => true
  | _ => false
def D.isB : D → Bool
  | .bl _ => true
  | _ => false
def D.isS : D → Bool
  | .str _ => true
  | _ => false
theorem kit_int {K : PySem.W.Frag} {d : D} {n : String} (h : d.tyN = some n) : PySem.W.kitOne K (.type n) (.type "int") = some (d.isI || d.isB) := by
  cases d <;> simp only [D.tyN, Option.some.injEq, reduceCtorEq] at h <;> subst h <;> first | rfl | decide +kernel
theorem kit_bool {K : PySem.W.Frag} {d : D} {n : String} (h : d.tyN = some n) : PySem.W.kitOne K (.type n) (.type "bool") = some d.isB := by
  cases d <;> simp only [D.tyN, Option.some.injEq, reduceCtorEq] at h <;> subst h <;> first | rfl | decide +kernel
theorem kit_str {K : PySem.W.Frag} {d : D} {n : String} (h : d.tyN = some n) : PySem.W.kitOne K (.type n) (.type "str") = some d.isS := by
  cases d <;> simp only [D.tyN, Option.some.injEq, reduceCtorEq] at h <;> subst h <;> first | rfl | decide +kernel
/-- an integer from lo to hi -/
def D.inB (lo hi : Int) : D → Bool
  | .int v => decide (lo ≤ v ∧ v ≤ hi)
  | _ => false
theorem isI_ex {d : D} (h : d.isI = true) : ∃ v, d = .int v := by
  cases d <;> first | exact ⟨_, rfl⟩ | cases h
theorem inB_no {d : D} {lo hi : Int} (h : d.isI = false) : d.inB lo hi = false := by
  cases d <;> first | rfl | cases h
theorem isB_no {d : D} (h : d.isI = true) : d.isB = false := by
  cases d <;> first | rfl | cases h
def TIsInt : TF := fun ds O Q _ => ∃ d n, ds = [d] ∧ d.tyN = some n ∧ Q (.bl d.isI) O
def TWithinD : TF := fun ds O Q _ => ∃ d lo hi n, ds = [d, .int lo, .int hi] ∧ d.tyN = some n ∧ Q (.bl (d.inB lo hi)) O
def TIsDayD : TF := fun ds O Q _ => ∃ d n, ds = [d] ∧ d.tyN = some n ∧ Q (.bl (d.inB (-mostN) mostN)) O
/-- need_day: bd is BadDay -/
def TNeedD (bd : Addr) : TF := fun ds O Q E => ∃ d n, ds = [d] ∧ d.tyN = some n ∧ (d.inB (-mostN) mostN = true → Q .non O) ∧ (d.inB (-mostN) mostN = false → E ⟨bd, [("value", d)]⟩ O)
end DL
namespace DL
open PySem PySem.Spec PyProof.Rows L2

/-! ### an instance is made, or its making refused -/
section
variable {C : CD} {X : Cx} {Γ : En} {O : Own} {Q : D → Own → Prop}
/-- what is owned, less one -/
theorem RepX.drop {K : PySem.W.Frag} {O O2 : Own} {H : Hp} {x : Exn} {cls : Value} {d : Option Addr} {a : Addr} {od : OD} (h : OTk O a od O2) (r : RepX K O H x cls d) : RepX K O2 H x cls d := by
  have l := h.le (H := H)
  obtain ⟨e, r⟩ := r
  refine ⟨e, ?_⟩
  rcases r with r | ⟨dd, gs, e1, n, e2, rf⟩
  · exact .inl r
  · exact .inr ⟨dd, gs, e1, l.not e2 n, e2, RepF.le l rf⟩
theorem cb_mkE {j : Nat} {Cl f : Addr} {ks : List Str} {T : TF} {ds es : List D} (Mc : Mk C.M.K Cl f) (F : Runs C.M j (.ref f) ks T) (hj : j + 2 ≤ C.k)
    (h : ∀ a, ¬ O.has a → T (.ref a :: (ds ++ es)) ((a, .ins Cl []) :: O) (fun d O2 => d = .non ∧ Q (.ref a) O2) fun x O' => ∃ b od O2, OTk O' b od O2 ∧ C.ED x Γ O2) : CB C Cl ds ks es Γ O Q :=
  cb_mk Mc (T := fun ds O Q E => T ds O Q fun x O' => ∃ a od O2, OTk O' a od O2 ∧ E x O2) (fun A outer s H us ws vs Q E hr hg e0 rv hl hsp => by
    obtain ⟨ds, O, QD, ED, w, r, t, hQ, hE⟩ := hsp
    refine F A outer s H us ws vs Q E hr hg e0 rv hl ⟨ds, O, QD, _, w, r, t, hQ, fun cls dx H' x O' q w' l' r' => ?_⟩
    obtain ⟨a, od, O2, tk, q⟩ := q
    exact hE cls dx H' x O2 q (tk.own w') (l'.trans tk.le) (r'.drop tk)) hj h
end

/-! ### cycles that may be refused -/
def D.val : D → Int
  | .int v => v
  | _ => 0
def firstBad : Nat → List D → Option Nat
  | _, [] => none
  | i, d :: ds => if d.inB 1 60 then firstBad (i + 1) ds else some i
/-- what the lengths vs are refused with; bc BadCycle, tm TooMany -/
def cycExn (bc tm : Addr) (vs : List D) : Option Exn :=
  match firstBad 0 vs with
  | some i => some ⟨bc, [("at", .int i)]⟩
  | none => if vs = [] then some ⟨bc, [("at", .int 0)]⟩ else if 12 < vs.length then some ⟨tm, [("most", .int 12), ("what", .str "blocks")]⟩
      else if 60 < (vs.map D.val).sum then some ⟨tm, [("most", .int 60), ("what", .str "days")]⟩ else none
theorem firstBad_shift : ∀ {ds : List D} {i : Nat}, firstBad (i + 1) ds = (firstBad i ds).map (· + 1)
  | [], _ => rfl
  | d :: ds, i => by
    unfold firstBad
    split
    · exact firstBad_shift
    · rfl
theorem firstBad_some : ∀ {ds : List D} {i j : Nat} {d : D}, (∀ k e, k < j → ds[k]? = some e → e.inB 1 60 = true) → ds[j]? = some d → d.inB 1 60 = false → firstBad i ds = some (i + j)
  | [], _, _, _, _, h, _ => by simp at h
  | e :: ds, i, 0, d, _, h, hd => by
    simp at h
    subst h
    unfold firstBad
    rw [if_neg (by rw [hd]; simp)]
    rfl
  | e :: ds, i, j + 1, d, h0, h, hd => by
    unfold firstBad
    rw [if_pos (h0 0 e (by omega) rfl), firstBad_some (j := j) (fun k e' hk he => h0 (k + 1) e' (by omega) (by simpa using he)) (by simpa using h) hd]
    congr 1
    omega
theorem firstBad_none : ∀ {ds : List D} {i : Nat}, (∀ d ∈ ds, d.inB 1 60 = true) → firstBad i ds = none
  | [], _, _ => rfl
  | d :: ds, i, h => by
    unfold firstBad
    rw [if_pos (h d List.mem_cons_self)]
    exact firstBad_none fun e he => h e (List.mem_cons_of_mem _ he)
theorem ints_of : ∀ {ds : List D}, (∀ d ∈ ds, d.inB 1 60 = true) → ∃ ns : List Int, ds = ns.map .int ∧ ∀ n ∈ ns, 1 ≤ n ∧ n ≤ 60
  | [], _ => ⟨[], rfl, by simp⟩
  | d :: ds, h => by
    obtain ⟨ns, rfl, hn⟩ := ints_of fun e he => h e (List.mem_cons_of_mem _ he)
    have hd := h d List.mem_cons_self
    cases d <;> first | cases hd | skip
    rename_i v
    have hv : 1 ≤ v ∧ v ≤ 60 := of_decide_eq_true hd
    refine ⟨v :: ns, rfl, fun n hm => ?_⟩
    rcases List.mem_cons.mp hm with rfl | hm
    · exact hv
    · exact hn n hm
theorem vals_sum (ns : List Int) : (ns.map D.int).map D.val = ns := by
  induction ns with
  | nil => rfl
  | cons n ns ih => simp only [List.map_cons, ih, D.val]
/-- a list or tuple of data -/
inductive SqV : Own → D → List D → Prop
  | lst {O : Own} {ds : List D} : SqV O (.lst ds) ds
  | tup {O : Own} {ds : List D} : SqV O (.tup ds) ds
  | own {O : Own} {p : Addr} {ds : List D} : OAt O p (.lst ds) → SqV O (.ref p) ds
theorem SqV.sq {O : Own} {x : D} {ds : List D} (h : SqV O x ds) : Sq O x ds := by
  cases h with
  | lst => exact .l .lst
  | tup => exact .t .tup
  | own h => exact .l (.own h)
def AllTy (vs : List D) : Prop := ∀ d ∈ vs, ∃ n, d.tyN = some n
theorem allTy_ints (ns : List Int) : AllTy (ns.map .int) := fun d h => by
  obtain ⟨n, _, rfl⟩ := List.mem_map.mp h
  exact ⟨"int", rfl⟩
def TInitE (Cl bc tm : Addr) : TF := fun ds O Q E => ∃ a vs, ds = [.ref a, .tup vs] ∧ AllTy vs ∧ vs.length ≤ 1000 ∧ OAt O a (.ins Cl []) ∧
  (∀ ns O', vs = ns.map .int → Good ns → OUp O a (.ins Cl []) (.ins Cl (cycF ns)) O' → Q .non O') ∧ ∀ x, cycExn bc tm vs = some x → E x O
def TOfE (Cl bc tm : Addr) : TF := fun ds O Q E => ∃ x, ds = [.ref Cl, x] ∧
  ((∃ vs, SqV O x vs ∧ AllTy vs ∧ vs.length ≤ 1000 ∧ (∀ ns, vs = ns.map .int → Good ns → Q (.ins Cl (cycF ns)) O) ∧ ∀ y, cycExn bc tm vs = some y → E y O) ∨
    ∃ n, x.tyN = some n ∧ n ≠ "list" ∧ n ≠ "tuple" ∧ E ⟨bc, [("at", .non)]⟩ O)
/-- a method at a day, or any other value -/
def TDayE (Cl bd : Addr) (r : List Int → Int → Int) : TF := fun ds O Q E => ∃ ns d n, ds = [.ins Cl (cycF ns), d] ∧ Good ns ∧ d.tyN = some n ∧ (∀ v, d = .int v → okDay v → Q (.int (r ns v)) O) ∧ (d.inB (-mostN) mostN = false → E ⟨bd, [("value", d)]⟩ O)
theorem good_no {ns : List Int} {bc tm : Addr} (g : Good ns) : cycExn bc tm (ns.map .int) = none := by
  have h : ∀ d ∈ ns.map D.int, d.inB 1 60 = true := fun d hd => by
    obtain ⟨n, hn, rfl⟩ := List.mem_map.mp hd
    exact decide_eq_true (good_le g hn)
  have h1 := g.1
  have h2 := g.2.1
  have h3 := g.2.2.2
  unfold cycExn
  rw [firstBad_none h, vals_sum]
  simp [h1, Nat.not_lt.mpr h2, Int.not_lt.mpr h3]
theorem not_list {n : String} {K : PySem.W.Frag} {d : D} (h : d.tyN = some n) : PySem.W.kitAny K (.type n) [.type "list", .type "tuple"] = some (decide (n = "list" ∨ n = "tuple")) := by
  cases d <;> simp only [D.tyN, Option.some.injEq, reduceCtorEq] at h <;> subst h <;> first | rfl | decide +kernel
end DL
namespace DL
open PySem PySem.Spec PyProof.Rows L2
open Sem (wp)
open AutoSeq1 (wpAny_loadPart')

/-! ### a bool or a value of another kind op instance -/
theorem ni_modB (d : Bool) (x C dx : Addr) : Meets (Builtin.«int.__mod__» ⟨[.bool d, .ref x], []⟩) (fun _ R s => s.heap.get? x = some (PySem.W.instObj C dx) ∧ R (.ok (.ret .notImplemented)) s) := .of_wp fun prog w A R s h => by
  obtain ⟨hp, gs, dr, tk, os⟩ := s
  obtain ⟨at_, h⟩ := h
  unfold PySem.W.instObj at at_
  wp_walk using wpAny_loadPart' at_
  exact ⟨_, rfl, h⟩
theorem ni_fdvB (d : Bool) (x C dx : Addr) : Meets (Builtin.«int.__floordiv__» ⟨[.bool d, .ref x], []⟩) (fun _ R s => s.heap.get? x = some (PySem.W.instObj C dx) ∧ R (.ok (.ret .notImplemented)) s) := .of_wp fun prog w A R s h => by
  obtain ⟨hp, gs, dr, tk, os⟩ := s
  obtain ⟨at_, h⟩ := h
  unfold PySem.W.instObj at at_
  wp_walk using wpAny_loadPart' at_
  exact ⟨_, rfl, h⟩
theorem fills_no {T nm : String} (hf : typeLookup (.type T) (dunder nm) = pure none) (hr : typeLookup (.type T) (dunderR nm) = pure none) : fillsNumberSlot (.type T) nm = pure false := by
  simp only [fillsNumberSlot, hf, hr, pure_bind, Option.isSome_none, Bool.false_and, Bool.or_self]
/-- types whose values take part in neither % nor // -/
inductive NoMod : String → Prop
  | non : NoMod "NoneType"
  | lst : NoMod "list"
  | tup : NoMod "tuple"
  | dct : NoMod "dict"
theorem NoMod.mod {T : String} (h : NoMod T) : fillsNumberSlot (.type T) "mod" = pure false := by
  cases h <;> exact fills_no (by rw [typeLookup_type, builtinLookup_eq_fast]; kernel_rfl) (by rw [typeLookup_type, builtinLookup_eq_fast]; kernel_rfl)
theorem NoMod.fdv {T : String} (h : NoMod T) : fillsNumberSlot (.type T) "floordiv" = pure false := by
  cases h <;> exact fills_no (by rw [typeLookup_type, builtinLookup_eq_fast]; kernel_rfl) (by rw [typeLookup_type, builtinLookup_eq_fast]; kernel_rfl)
section
variable {K : PySem.W.Frag} {C f : Addr}
theorem wp_reflB {prog : Program} {w : World} {A : Around} {E : Value → Shared → Prop} {s : Shared} {op : Operator} {nm id : String} {Bt : Builtin} {d : Bool} {x dx : Addr} {od : Option Obj} {cd : ClassData} {rest : List Value} {Q : Value → Shared → Prop} (X : K.In s.heap) (I : PySem.W.InstAt s.heap x (PySem.W.instObj C dx) C od) (ho : op.info.2 = nm)
    (fl : fillsNumberSlot (.type "bool") nm = pure true) (sl : Slot "bool" (dunder nm) id) (en : entryFor table id = some Bt) (ar : argsOk id ⟨[.bool d, .ref x], []⟩) (ni : Meets (Bt ⟨[.bool d, .ref x], []⟩) (fun _ R s => s.heap.get? x = some (PySem.W.instObj C dx) ∧ R (.ok (.ret .notImplemented)) s))
    (hc : PySem.W.clsIn K C = some cd) (hm : cd.mro = .ref C :: rest) (sb : PySem.W.subIn K (.ref C) (.type "bool") = some false) (h0 : PySem.W.findIn K (.ref C) (dunder nm) = some none) (h1 : PySem.W.findIn K (.ref C) (dunderR nm) = some (some (.ref f))) (hf : PySem.W.isFn K (.ref f) = true)
    (h : wpAny (model prog w) A (call (.ref f) [.ref x, .bool d]) (fun v s' => v ≠ .notImplemented ∧ Q v s') E s) : wpAny (model prog w) A (binaryOp op (.bool d) (.ref x)) Q E s := by
  obtain ⟨sym, hi⟩ : ∃ sym, op.info = (sym, nm) := ⟨op.info.1, by rw [← ho]⟩
  have ti : s.TypeIs (.bool d) "bool" := PySem.typeIs_bool s d
  simp only [binaryOp, hi]
  refine wpAny_holding (wpAny_bind ?_)
  simp only [binaryOp1]
  refine wpAny_bind (wpAny_typeOf ti (wpAny_bind (I.type.here (wpAny_bind (wpAny_of_eq fl ?_)))))
  rw [if_neg (show ¬ ((Value.type "bool" == Value.ref C) = true) from Bool.false_ne_true)]
  refine wpAny_bind ((fills_R X hc hm h0 h1).here ?_)
  simp only [Bool.and_self, if_true]
  refine wpAny_bind ((PySem.W.looks_subIn X sb).here ?_)
  have py : numberSlotInPython (.type "bool") nm = pure false := rfl
  simp only [Bool.false_eq_true, if_false, pure_bind, Bool.not_false, Bool.and_self, if_true, py]
  simp only [tryMethod]
  refine wpAny_bind (wpAny_bind (wpAny_callSpecial?_slot ti sl (call_meets sl ti en ar ni ⟨I.at_, ?_⟩)))
  refine wpAny_pure (wpAny_bind (wpAny_bind (PySem.W.special_fn X I h1 (beq_iff_eq.mp hf) (wpAny_mono h (fun v s' hv => ?_) fun _ _ z => z))))
  cases v <;> first | exact absurd rfl hv.1 | exact wpAny_pure (wpAny_bind (wpAny_rule (wpAny_pure (wpAny_pure hv.2))))
theorem wp_refl0 {prog : Program} {w : World} {A : Around} {E : Value → Shared → Prop} {s : Shared} {op : Operator} {nm T : String} {v : Value} {x dx : Addr} {od : Option Obj} {cd : ClassData} {rest : List Value} {Q : Value → Shared → Prop} (X : K.In s.heap) (I : PySem.W.InstAt s.heap x (PySem.W.instObj C dx) C od) (ho : op.info.2 = nm)
    (ti : PySem.W.Looks (model prog w) s.heap (typeOf v) (.type T)) (fl : fillsNumberSlot (.type T) nm = pure false)
    (hc : PySem.W.clsIn K C = some cd) (hm : cd.mro = .ref C :: rest) (h0 : PySem.W.findIn K (.ref C) (dunder nm) = some none) (h1 : PySem.W.findIn K (.ref C) (dunderR nm) = some (some (.ref f))) (hf : PySem.W.isFn K (.ref f) = true)
    (h : wpAny (model prog w) A (call (.ref f) [.ref x, v]) (fun u s' => u ≠ .notImplemented ∧ Q u s') E s) : wpAny (model prog w) A (binaryOp op v (.ref x)) Q E s := by
  obtain ⟨sym, hi⟩ : ∃ sym, op.info = (sym, nm) := ⟨op.info.1, by rw [← ho]⟩
  simp only [binaryOp, hi]
  refine wpAny_holding (wpAny_bind ?_)
  simp only [binaryOp1]
  refine wpAny_bind (ti.here (wpAny_bind (I.type.here (wpAny_bind (wpAny_of_eq fl ?_)))))
  rw [if_neg (show ¬ ((Value.type T == Value.ref C) = true) from Bool.false_ne_true)]
  refine wpAny_bind ((fills_R X hc hm h0 h1).here ?_)
  simp only [Bool.false_and, Bool.false_eq_true, if_false, pure_bind, Bool.not_false, Bool.and_self, if_true, tryMethod]
  refine wpAny_bind (wpAny_bind (PySem.W.special_fn X I h1 (beq_iff_eq.mp hf) (wpAny_mono h (fun u s' hv => ?_) fun _ _ z => z)))
  cases u <;> first | exact absurd rfl hv.1 | exact wpAny_pure (wpAny_bind (wpAny_rule (wpAny_pure (wpAny_pure hv.2))))
end
section
variable {C : CD} {X : Cx} {Γ : En} {O : Own} {Q : D → Own → Prop} {Cl : Addr} {j : Nat} {T : TF} {d : D} {di : D} {fs : List (Str × D)}
theorem run_reflB {b : Bool} {nm id : String} {op : Operator} {Bt : Builtin} (R : Refl C.M.K Cl nm) (sb : PySem.W.subIn C.M.K (.ref Cl) (.type "bool") = some false) (hc : Cls C.M.K Cl) (E : EntM C.M j Cl (dunderR nm) T) (hj : j + 1 ≤ C.k) (hi : Ins O di Cl fs) (ho : op.info.2 = nm) (fl : fillsNumberSlot (.type "bool") nm = pure true) (sl : Slot "bool" (dunder nm) id) (en : entryFor table id = some Bt)
    (ar : ∀ a b, argsOk id ⟨[a, b], []⟩) (ni : ∀ d x C dx, Meets (Bt ⟨[.bool d, .ref x], []⟩) (fun _ R s => s.heap.get? x = some (PySem.W.instObj C dx) ∧ R (.ok (.ret .notImplemented)) s))
    (h : T [di, .bl b] O Q fun x O' => C.ED x Γ O') : OW C X (binaryOp op) (.bl b) di Γ O Q := .mk fun ok σ H S v w rx ry k hk pins s v' w' I rv rw' => by
  rw [rep_bl] at rx
  subst rx
  obtain rfl : v' = Value.bool b := rv
  obtain ⟨a, dx, gs, rfl, ea, rf⟩ := hi.ok S.own ry
  obtain rfl : w' = Value.ref a := rw'
  obtain ⟨f, mt, F⟩ := E
  obtain ⟨mA, Ob, _, _, _, _⟩ := ins_get I.hok ea
  obtain ⟨od, J, _⟩ := Ob.look
  obtain ⟨cd, rest, hcd, hm⟩ := R.cd
  have KX : C.M.K.In s.heap := by rw [← ok.K]; exact I.kIn
  refine wp_reflB KX J ho fl sl en (ar _ _) (ni b a Cl dx) hcd hm sb R.h0 mt.at_ mt.fn ?_
  refine wpAny_mono ((cb_df F hj h).call ok S hk (reps_cons.mpr ⟨_, _, rfl, ry, reps_cons.mpr ⟨_, _, rfl, rep_bl.mpr rfl, reps_nil.mpr rfl⟩⟩) (reps_nil.mpr rfl) pins s [.ref a, .bool b] [] I (.cons rfl (.cons rfl .nil)) .nil rfl) (fun u s' q => ⟨?_, q⟩) fun _ _ q => q
  obtain ⟨_, _, _, r, _⟩ := q
  exact rel_ni r
theorem run_refl0 {T' : String} {nm : String} {op : Operator} (R : Refl C.M.K Cl nm) (hc : Cls C.M.K Cl) (E : EntM C.M j Cl (dunderR nm) T) (hj : j + 1 ≤ C.k) (hi : Ins O di Cl fs) (ho : op.info.2 = nm) (hT : TyD C.M.K O d (.type T')) (fl : fillsNumberSlot (.type T') nm = pure false)
    (h : T [di, d] O Q fun x O' => C.ED x Γ O') : OW C X (binaryOp op) d di Γ O Q := .mk fun ok σ H S v w rx ry k hk pins s v' w' I rv rw' => by
  obtain ⟨a, dx, gs, rfl, ea, rf⟩ := hi.ok S.own ry
  obtain rfl : w' = Value.ref a := rw'
  obtain ⟨f, mt, F⟩ := E
  obtain ⟨mA, Ob, _, _, _, _⟩ := ins_get I.hok ea
  obtain ⟨od, J, _⟩ := Ob.look
  obtain ⟨cd, rest, hcd, hm⟩ := R.cd
  have KX : C.M.K.In s.heap := by rw [← ok.K]; exact I.kIn
  have ty : TyX X.K H v (.type T') := by rw [ok.K]; exact hT.ok S.own rx
  obtain ⟨P, kx, hP, _⟩ := kit_of I rv ty
  refine wp_refl0 KX J ho (kx.ty _ _ I.kIn hP) fl hcd hm R.h0 mt.at_ mt.fn ?_
  refine wpAny_mono ((cb_df F hj h).call ok S hk (reps_cons.mpr ⟨_, _, rfl, ry, reps_cons.mpr ⟨_, _, rfl, rx, reps_nil.mpr rfl⟩⟩) (reps_nil.mpr rfl) pins s [.ref a, v'] [] I (.cons rfl (.cons rv .nil)) .nil rfl) (fun u s' q => ⟨?_, q⟩) fun _ _ q => q
  obtain ⟨_, _, _, r, _⟩ := q
  exact rel_ni r
/-- v % o, v // o, v of any kind but str -/
theorem ow_rmodD {n : String} (R : Refl C.M.K Cl "mod") (sb : PySem.W.subIn C.M.K (.ref Cl) (.type "bool") = some false) (hc : Cls C.M.K Cl) (E : EntM C.M j Cl (dunderR "mod") T) (hj : j + 1 ≤ C.k) (hi : Ins O di Cl fs) (hn : d.tyN = some n) (hs : d.isS = false) (h : T [di, d] O Q fun x O' => C.ED x Γ O') : OW C X (binaryOp .Mod) d di Γ O Q := by
  cases d with
  | int i => exact ow_rmod R hc E hj hi h
  | bl b => exact run_reflB R sb hc E hj hi rfl F.fills_bool_mod F.slot_bool_mod F.entry_int_mod F.args_int_mod_2 ni_modB h
  | str x => cases hs
  | non => exact run_refl0 R hc E hj hi rfl .non NoMod.non.mod h
  | lst x => exact run_refl0 R hc E hj hi rfl .lst NoMod.lst.mod h
  | tup x => exact run_refl0 R hc E hj hi rfl .tup NoMod.tup.mod h
  | dct x => exact run_refl0 R hc E hj hi rfl .dct NoMod.dct.mod h
  | _ => cases hn
theorem ow_rfdvD {n : String} (R : Refl C.M.K Cl "floordiv") (sb : PySem.W.subIn C.M.K (.ref Cl) (.type "bool") = some false) (hc : Cls C.M.K Cl) (E : EntM C.M j Cl (dunderR "floordiv") T) (hj : j + 1 ≤ C.k) (hi : Ins O di Cl fs) (hn : d.tyN = some n) (hs : d.isS = false) (h : T [di, d] O Q fun x O' => C.ED x Γ O') : OW C X (binaryOp .FloorDiv) d di Γ O Q := by
  cases d with
  | int i => exact ow_rfdv R hc E hj hi h
  | bl b => exact run_reflB R sb hc E hj hi rfl F.fills_bool_floordiv F.slot_bool_floordiv F.entry_int_floordiv F.args_int_floordiv_2 ni_fdvB h
  | str x => cases hs
  | non => exact run_refl0 R hc E hj hi rfl .non NoMod.non.fdv h
  | lst x => exact run_refl0 R hc E hj hi rfl .lst NoMod.lst.fdv h
  | tup x => exact run_refl0 R hc E hj hi rfl .tup NoMod.tup.fdv h
  | dct x => exact run_refl0 R hc E hj hi rfl .dct NoMod.dct.fdv h
  | _ => cases hn
end
end DL
namespace DL
open PySem PySem.Spec PyProof.Rows L2

/-! ### methods of built-in values -/
/-- of that built-in type -/
inductive TyB (O : Own) : String → D → Prop
  | str {x : Str} : TyB O "str" (.str x)
  | lst {d : D} {ds : List D} : SqLs O d ds → TyB O "list" d
  | dct {kvs : List (Key × D)} : TyB O "dict" (.dct kvs)
  | ownD {p : Addr} {kvs : List (Key × D)} : OAt O p (.dct kvs) → TyB O "dict" (.ref p)
theorem TyB.ok {K : PySem.W.Frag} {O : Own} {H : Hp} {T : String} {d : D} {v : V} (h : TyB O T d) (w : OwnOk K O H) (r : Rep K O.has H d v) : tyV K T v H := by
  cases h with
  | str => rw [rep_str] at r; subst r; rfl
  | lst sq =>
    obtain ⟨p, xs, rfl, q, _⟩ := sq.ok w r
    exact .inl ⟨rfl, xs, q⟩
  | dct =>
    simp only [Rep] at r
    obtain ⟨a, ws, rfl, _, e, _⟩ := r
    exact .inr (.inr (.inl ⟨rfl, .inl ⟨ws, e⟩⟩))
  | ownD oa =>
    obtain ⟨ws, e, _⟩ := w.at_ _ _ oa.mem
    rw [rep_ref] at r
    subst r
    exact .inr (.inr (.inl ⟨rfl, .inl ⟨ws, e⟩⟩))
section
variable {C : CD} {X : Cx} {Γ : En} {O O' : Own} {Q : D → Own → Prop} {o e : Expr} {es : List Expr} {name : Str} {apos cpos : Pos} {T id : String}
theorem we_bm0 (pa : PlainAttrs T) (slot : Slot T name id) (hty : typeOf (.builtin id) = pure (.type "method_descriptor")) (hbase : ∀ env, attributeBase o name env (eval o env) = eval o env) (hline : (apos.endLine == cpos.line) = true)
    (h : DL.WE C X o Γ O fun x O1 => TyB O1 T x ∧ BF C (.builtin id) [x] Γ O1 Q) : DL.WE C X (.Call (.Attribute o name apos) [] [] cpos) Γ O Q := .mk fun ok σ H S k hk pins s I => by
  refine wpAny_Call_method0_late (hbase _) hline (thn (h ok σ H S (fun v H1 => tyV X.K T v H1 ∧ ∀ (pins : List (Addr × Obj)) (s : Shared) (u : Value), Inv X pins σ H1 s → RelV v u → wpAny (model X.prog X.w) X.A (call (.builtin id) [u]) (EP X pins σ k) X.xe s) (fun v H1 d O1 ⟨t, q⟩ S1 l1 r1 => ⟨by rw [ok.K]; exact t.ok S1.own r1, fun pins s u I r => ?_⟩) pins s I) fun v s1 ⟨x, H1, I1, r1, ty, q1⟩ => ?_)
  · exact q X ok σ H1 S1 [v] (reps_cons.mpr ⟨_, _, rfl, r1, reps_nil.mpr rfl⟩) k (hk.le l1) pins s [u] I (.cons r .nil)
  obtain ⟨h1, h2⟩ := tyV_is I1 r1 ty
  exact ⟨T, id, pa, slot, hty, h1, h2, Calls.callWith_builtin rfl (PySem.evalArgs_none (q1 pins s1 v I1 r1))⟩
theorem we_bm (pa : PlainAttrs T) (slot : Slot T name id) (hty : typeOf (.builtin id) = pure (.type "method_descriptor")) (hbase : ∀ env, attributeBase o name env (eval o env) = eval o env)
    (hfew : ∀ env, ((backTo cpos (starEach (e :: es) env)).all (fun x => !x.1) && (backToKw cpos (keywordEach [] env)).all (fun x => x.1.isSome)
      && decide ((e :: es).length + ([] : List Keyword).length + (if ([] : List Keyword).isEmpty then 0 else 1) < 30)) = true)
    (hline : (apos.endLine == cpos.line) = true) (hs : ∀ env, starEach (e :: es) env = (false, eval e env) :: starEach es env) (hplain : ∀ env, (backTo cpos (starEach es env)).any (·.1) = false)
    (h : DL.WE C X o Γ O fun x O1 => TyB O1 T x ∧ WA C X (e :: es) Γ O1 fun ds O2 => BF C (.builtin id) (x :: ds) Γ O2 Q) : DL.WE C X (.Call (.Attribute o name apos) (e :: es) [] cpos) Γ O Q := .mk fun ok σ H S k hk pins s I => by
  refine wpAny_Call_method_late (hbase _) (hfew _) hline rfl (thn (h ok σ H S (fun v H1 => tyV X.K T v H1 ∧ AW X (e :: es) σ H1 fun vs H2 => ∀ (pins : List (Addr × Obj)) (s : Shared) (u : Value) (us : List Value), Inv X pins σ H2 s → RelV v u → Vals vs us → wpAny (model X.prog X.w) X.A (call (.builtin id) (u :: us)) (EP X pins σ k) X.xe s) (fun v H1 d O1 ⟨t, q⟩ S1 l1 r1 => ⟨by rw [ok.K]; exact t.ok S1.own r1, q ok σ H1 S1 _ fun vs H2 ds O2 q2 S2 l2 r2 pins s u us I r rs => ?_⟩) pins s I) fun v s1 ⟨x, H1, I1, r1, ty, q1⟩ => ?_)
  · exact q2 X ok σ H2 S2 (v :: vs) (reps_cons.mpr ⟨_, _, rfl, Rep.le l2 r1, r2⟩) k (hk.le (l1.trans l2)) pins s (u :: us) I (.cons r rs)
  obtain ⟨h1, h2⟩ := tyV_is I1 r1 ty
  refine ⟨T, id, pa, slot, hty, h1, h2, ?_⟩
  have hA := q1 cpos pins s1 I1
  rw [hs] at hA ⊢
  refine Calls.callWith_builtin (by show (false || (backTo cpos (starEach es X.env)).any (·.1)) = false; rw [hplain] <;> rfl) (Calls.evalArgs_plain ?_)
  exact thn hA fun us s2 ⟨vs, H2, I2, r2, q2⟩ => q2 pins s2 v us I2 r1 r2
theorem bf_mt {r : V → List V → Hp → VK → Prop} {x : D} {ds : List D} (hm : ∀ X, Ok C X → MtR X id r) (h : ∀ σ H v vs, Sat C Γ O σ H → Rep C.M.K O.has H x v → Reps C.M.K O.has H ds vs → ∀ k, KV_ C Γ O σ H Q k → r v vs H k) : BF C (.builtin id) (x :: ds) Γ O Q := .mk fun X ok σ H S vs rv k hk pins s us I r0 => by
  rw [reps_cons] at rv
  obtain ⟨v, w, rfl, rx, rv⟩ := rv
  cases r0 with
  | cons ru rs => exact hm X ok pins s σ H v w _ _ k I ru rs (h σ H v w S rx rv k hk)
/-- xs.append(d), an owned list -/
theorem bf_append {p : Addr} {ds : List D} {d : D} (u : OUp O p (.lst ds) (.lst (ds ++ [d])) O') (hz : ds.length < sizeLine) (q : Q .non O') : BF C (.builtin "list.append") [.ref p, d] Γ O Q := bf_mt (r := rAppend) (fun X _ => mt_append) fun σ H v vs S rx rv k hk => by
  obtain ⟨y, rfl, ry⟩ := reps1 rv
  rw [rep_ref] at rx
  subst rx
  obtain ⟨xs, ex, rxs⟩ := S.own.at_ p _ u.at_.1.mem
  refine ⟨p, xs, y, rfl, rfl, ex, by rw [reps_len rxs]; exact hz, ?_⟩
  have l3 : Le O H O' (upd H p (.lst (xs ++ [y]))) := u.le
  have w3 : OwnOk C.M.K O' (upd H p (.lst (xs ++ [y]))) := u.own S.own ⟨_, upd_same, reps_app (Reps.le l3 rxs) (reps_cons.mpr ⟨_, _, rfl, Rep.le l3 ry, reps_nil.mpr rfl⟩)⟩
  exact hk .non _ .non O' q (S.step l3 w3) l3 (rep_non.mpr rfl)
/-- xs.append(e), at an owned list -/
theorem we_append (hbase : ∀ env, attributeBase o "append" env (eval o env) = eval o env)
    (hfew : ∀ env, ((backTo cpos (starEach [e] env)).all (fun x => !x.1) && (backToKw cpos (keywordEach [] env)).all (fun x => x.1.isSome)
      && decide (([e] : List Expr).length + ([] : List Keyword).length + (if ([] : List Keyword).isEmpty then 0 else 1) < 30)) = true)
    (hline : (apos.endLine == cpos.line) = true) (hs : ∀ env, starEach [e] env = [(false, eval e env)])
    (h : DL.WE C X o Γ O fun x O1 => ∃ p ds, x = .ref p ∧ OAt O1 p (.lst ds) ∧ DL.WE C X e Γ O1 fun d O2 => ∃ ds2 O3, OUp O2 p (.lst ds2) (.lst (ds2 ++ [d])) O3 ∧ ds2.length < sizeLine ∧ Q .non O3) : DL.WE C X (.Call (.Attribute o "append" apos) [e] [] cpos) Γ O Q :=
  we_bm F.plainAttrs_list F.slot_list_append F.type_list_append hbase hfew hline (fun env => by rw [hs]; rfl) (fun _ => rfl) (we_imp h fun x O1 ⟨p, ds, e1, oa, q⟩ => ⟨by subst e1; exact .lst (.own oa), wa_cons (fun env => by rw [hs]; rfl) (we_imp q fun d O2 ⟨ds2, O3, u, hz, q⟩ => wa_nil (by subst e1; exact bf_append u hz q))⟩)
end
end DL
namespace DL
open PySem PySem.Spec PyProof.Rows L2

/-! ### an owned thing of a name, at rest from now on -/
inductive UpD : En → Str → D → D → En → Prop
  | here {x : Str} {d d' : D} {Γ : En} : UpD ((x, some d) :: Γ) x d d' ((x, some d') :: Γ)
  | there {x : Str} {d d' : D} {p : Str × Option D} {Γ Γ' : En} : UpD Γ x d d' Γ' → UpD (p :: Γ) x d d' (p :: Γ')
theorem UpD.nm {Γ Γ' : En} {x : Str} {d d' : D} (u : UpD Γ x d d' Γ') : Γ'.map (·.1) = Γ.map (·.1) := by
  induction u with
  | here => rfl
  | there _ ih => simp only [List.map_cons, ih]
theorem UpD.sl {K : PySem.W.Frag} {N N' : Addr → Prop} {H : Hp} {d d' : D} (hd : ∀ v, Rep K N H d v → Rep K N' H d' v) : ∀ {Γ Γ' : En} {x : Str} {σ : St}, UpD Γ x d d' Γ' → RepSl K N H Γ σ → RepSl K N' H Γ σ → RepSl K N' H Γ' σ
  | _, _, _, _, .here, h, h' => by
    simp only [RepSl] at h h' ⊢
    obtain ⟨v, r, rfl, a, b⟩ := h
    obtain ⟨v', r', e, a', b'⟩ := h'
    cases e
    exact ⟨v, r, rfl, hd v a, b'⟩
  | _, _, _, _, .there (p := (y, od)) u, h, h' => by
    cases od with
    | none =>
      simp only [RepSl] at h h' ⊢
      obtain ⟨o, r, rfl, b⟩ := h
      obtain ⟨o', r', e, b'⟩ := h'
      cases e
      exact ⟨o, r, rfl, UpD.sl hd u b b'⟩
    | some dd =>
      simp only [RepSl] at h h' ⊢
      obtain ⟨v, r, rfl, a, b⟩ := h
      obtain ⟨v', r', e, a', b'⟩ := h'
      cases e
      exact ⟨v, r, rfl, a', UpD.sl hd u b b'⟩
section
variable {C : CD} {X : Cx} {Γ Γ' : En} {O O' : Own} {N : De} {sts : List Stmt} {p : Addr} {x : Str}
theorem wss_frzV {ds : List D} (t : OTk O p (.lst ds) O') (u : UpD Γ x (.ref p) (.lst ds) Γ') (h : WSs C X sts Γ' O' N) : WSs C X sts Γ O N := .mk fun ok σ H S D hD =>
  h ok σ H ⟨by rw [u.nm]; exact S.nm, u.sl (fun v r => by rw [rep_ref] at r; subst r; exact t.lst S.own) S.sl (RepSl.le t.le S.sl), t.own S.own, S.le.trans t.le⟩ D hD
theorem ws_asgS {tg e : Expr} {pos : Pos} (hs : ∀ env, swapsWithSole [tg] e pos.line env = pure false) (hw : ∀ env, env.scope = C.sc → swappedStores [tg] e env = pure none) (h1 : ∀ env, (assignEach [tg] env).map (·.2) = [assign tg env])
    (h : DL.WE C X e Γ O fun d O1 => WG C X tg d Γ O1 N.nx) : WS C X (.Assign [tg] e pos) Γ O N := .mk fun ok σ H S D hD =>
  sw_of (ps_asg pe_ew pg_gw (hs _) (hw _ ok.sc) (h1 _)) (h ok σ H S _ fun v H1 d O1 q1 S1 l1 r1 => q1 ok σ H1 S1 v r1 _ fun σ2 H2 Γ2 O2 q2 S2 l2 => hD.nx σ2 H2 Γ2 O2 q2 S2)
end
/-! ### repr of greater numbers -/
theorem rp_of2 {d : D} (h : PSm 100 d.pd) (hi : d.isRp = true) (hd : d.pd.depth ≤ 50) (hc : pcnt d.pd ≤ 300) : Rp d := by
  refine ⟨hi, psm_show (by decide) _ h, hd, ?_⟩
  have h1 := PyData.shown_le 108 (by decide) d.pd (psm_short (by decide) _ h)
  have h2 := psm_weight _ h
  have h3 : (4 * 100 + 42) * pcnt d.pd ≤ 442 * 300 := Nat.mul_le_mul_left _ hc
  rw [sizeLine_eq]
  omega
theorem rp_int {i : Int} (h : i.natAbs < 10 ^ 100) : Rp (.int i) := rp_of2 h rfl (by simp [D.pd, D.py, PyData.depth]) (by simp [D.pd, D.py, pcnt])
end DL
namespace DL
open PySem PySem.Spec PyProof.Rows L2

/-! ### days of cycles -/
def TBlk : TF := fun ds O Q _ => ∃ ns d, ds = [.lst (ns.map .int), .int d] ∧ Good ns ∧ Q (.tup [.int (fI ns d), .int (lI ns d), .int (kI ns d)]) O
theorem fI_le {ns : List Int} (g : Good ns) (d : Int) : fI ns d ≤ d := (bI_in g d).lo
theorem le_lI {ns : List Int} (g : Good ns) (d : Int) : d ≤ lI ns d := by
  have := (bI_in g d).hi
  unfold lI
  omega
theorem nI_eq {ns : List Int} (g : Good ns) (d : Int) : lI ns d - fI ns d + 1 = nI ns d := by
  unfold lI fI
  rw [pre_bI g d]
  omega
theorem nI_bnd {ns : List Int} (g : Good ns) (d : Int) : 1 ≤ nI ns d ∧ nI ns d ≤ 60 := good_le g (List.mem_of_getElem? (nI_get g d))
theorem day_bnd {ns : List Int} (g : Good ns) (d : Int) : d - 60 < fI ns d ∧ lI ns d < d + 60 := by
  have h1 := nI_bnd g d
  have h2 := nI_eq g d
  have h3 := fI_le g d
  have h4 := le_lI g d
  omega
theorem ediv_bnd {d s : Int} (h : 1 ≤ s) : (d / s).natAbs ≤ d.natAbs := by
  rcases Int.le_total 0 d with z | z
  · have h1 := Int.ediv_nonneg z (show 0 ≤ s by omega)
    have h2 := Int.ediv_le_self s z
    omega
  · have h1 : d / s ≤ 0 := Int.ediv_le_of_le_mul (by omega) (by omega)
    have h2 : d ≤ d / s := (Int.le_ediv_iff_mul_le (by omega)).mpr (by
      have h1 := Int.mul_nonneg (show 0 ≤ -d by omega) (show 0 ≤ s - 1 by omega)
      rw [Int.neg_mul, Int.mul_sub, Int.mul_one] at h1
      omega)
    omega
theorem kI_bnd {ns : List Int} (g : Good ns) {d : Int} (h : okDay d) : (kI ns d).natAbs < 10 ^ 62 := by
  have h1 := ediv_bnd (d := d) (sum_pos g)
  have h2 : (d / ns.sum * (ns.length : Int)).natAbs ≤ d.natAbs * 12 := by
    rw [Int.natAbs_mul]
    exact Nat.mul_le_mul h1 (by have := g.2.1; omega)
  have h3 := (bI_in g d).lt
  have h4 := g.2.1
  have h5 : d.natAbs ≤ 10 ^ 60 := by
    unfold okDay mostN at h
    omega
  unfold kI
  omega
theorem okDay_of {v : Int} (h : v.natAbs < 10 ^ 60) : okDay v := by
  unfold okDay mostN
  omega
theorem okDay_abs {v : Int} (h : okDay v) : v.natAbs < 10 ^ 60 := by
  unfold okDay mostN at h
  omega
section
variable {Cl bd bc tm : Addr} {r : List Int → Int → Int} {ns : List Int} {O : Own} {Q : D → Own → Prop} {E : Exn → Own → Prop}
theorem dayE_int {v : Int} (g : Good ns) (h : okDay v) (q : Q (.int (r ns v)) O) : TDayE Cl bd r [.ins Cl (cycF ns), .int v] O Q E :=
  ⟨ns, .int v, "int", rfl, g, rfl, fun u e _ => by cases e; exact q, fun hb => by
    exfalso
    have : D.inB (-mostN) mostN (.int v) = true := decide_eq_true h
    rw [this] at hb
    cases hb⟩
theorem dayE_no {d : D} {n : String} (g : Good ns) (hn : d.tyN = some n) (h : d.inB (-mostN) mostN = false) (q : E ⟨bd, [("value", d)]⟩ O) : TDayE Cl bd r [.ins Cl (cycF ns), d] O Q E :=
  ⟨ns, d, n, rfl, g, hn, fun v e ok => (by
    exfalso
    subst e
    have : D.inB (-mostN) mostN (.int v) = true := decide_eq_true ok
    rw [this] at h
    cases h), fun _ => q⟩
theorem ofE_ints {x : D} (g : Good ns) (s : SqV O x (ns.map .int)) (q : Q (.ins Cl (cycF ns)) O) : TOfE Cl bc tm [.ref Cl, x] O Q E :=
  ⟨x, rfl, .inl ⟨_, s, allTy_ints ns, by rw [List.length_map]; have := g.2.1; omega, fun ms e _ => by
    have : ns = ms := by
      have h := congrArg (List.map D.val) e
      rw [vals_sum, vals_sum] at h
      exact h
    subst this
    exact q, fun y hy => by rw [good_no g] at hy; cases hy⟩⟩
theorem szl {n : Nat} (h : n < 1000) : n < sizeLine := Nat.lt_of_lt_of_le h (by decide)
theorem shp_l {xs : List D} {ms : List Int} (h : xs = ms.map .int) : D.shp (.lst xs) = true := by subst h; exact shp_ints ms
theorem eq_l {xs ys : List D} {ms ks : List Int} (h : xs = ms.map .int) (h' : ys = ks.map .int) : D.eq (.lst xs) (.lst ys) = decide (ms = ks) := by subst h; subst h'; exact eq_ints ms ks
end
section
variable {C : CD} {Γ : En} {O : Own} {Q : D → Own → Prop} {Cl bc tm fi : Addr} {j : Nat} {ns : List Int}
/-- Cycle(.., ..) of lengths that hold -/
theorem cb_cycle (mk : Mk C.M.K Cl fi) (R : Runs C.M j (.ref fi) [] (TStar 1 (TInitE Cl bc tm))) (hj : j + 2 ≤ C.k) (g : Good ns) (q : Q (.ins Cl (cycF ns)) O) :
    CB C Cl (ns.map .int) [] [] Γ O fun d O1 => ∃ p O2, d = .ref p ∧ ((∃ ds, OTk O1 p (.lst ds) O2 ∧ Q (.lst ds) O2) ∨ (∃ ds, OTk O1 p (.dct ds) O2 ∧ Q (.dct ds) O2) ∨ ∃ Cl fs, OTk O1 p (.ins Cl fs) O2 ∧ Q (.ins Cl fs) O2) := by
  have hL := g.2.1
  refine cb_mkE mk R hj fun a ha => ?_
  refine ⟨[.ref a], ns.map .int ++ [], rfl, rfl, sz (by rw [List.append_nil, List.length_map]; omega), a, ns.map .int, by rw [List.append_nil]; rfl, allTy_ints ns, by rw [List.length_map]; omega, .here, fun ms O' e g' u => ?_, fun y hy => by rw [good_no g] at hy; cases hy⟩
  obtain rfl : ns = ms := by
    have h := congrArg (List.map D.val) e
    rw [vals_sum, vals_sum] at h
    exact h
  exact ⟨rfl, a, _, rfl, .inr (.inr ⟨Cl, _, by cases u with | here => exact .here | there u => exact absurd (List.mem_map.mpr ⟨_, u.at_.1.mem, rfl⟩) ha, q⟩)⟩
end
end DL
namespace DL
open PySem PySem.Spec PyProof.Rows L2
section
variable {C : CD} {X : Cx} {Γ : En} {O : Own} {Q : D → Own → Prop} {pos : Pos}
/-- {} -/
theorem we_dct0 (q : Q (.dct []) O) : DL.WE C X (.Dict [] [] pos) Γ O Q := .mk fun ok σ H S k hk =>
  ew_of pe_dnewK fun p hp => hk.new S hp q (by
    simp only [Rep]
    exact ⟨p, [], rfl, S.own.nothas hp, upd_same, rfl⟩)
theorem we_dct0O (q : ∀ p, ¬ O.has p → Q (.ref p) ((p, .dct []) :: O)) : DL.WE C X (.Dict [] [] pos) Γ O Q := .mk fun ok σ H S k hk =>
  ew_of pe_dnewK fun p hp => hk.newO S hp (q p (S.own.nothas hp)) ⟨[], upd_same, rfl⟩
end
theorem strOk_ofString (s : String) : PyData.strOk (Str.ofString s) = true := by
  rw [Str.ofString_eq_toList]
  unfold PyData.strOk
  simp only [List.all_toArray, List.all_map, List.all_eq_true, Function.comp_apply, decide_eq_true_eq]
  intro c _
  rcases c with ⟨v, h⟩
  show v.toNat < _
  rcases h with h | ⟨_, h⟩
  · exact Nat.lt_trans h (by decide)
  · exact h
theorem shp_pairs {m : Nat} {a b : Str} (hm : m ≤ 60) (ha : PyData.strOk a = true) (hb : PyData.strOk b = true) : D.shp (.lst (List.replicate m (.tup [.str a, .str b]))) = true := by
  have h1 : ∀ m, D.arePy (List.replicate m (.tup [.str a, .str b])) = true := by
    intro m
    induction m with
    | zero => rfl
    | succ m ih => simp [List.replicate_succ, D.arePy, D.isPy, ih]
  have h2 : ∀ m, PyData.canLayAll0 (D.pys (List.replicate m (.tup [.str a, .str b]))) = true ∧ PyData.depthAll (D.pys (List.replicate m (.tup [.str a, .str b]))) ≤ 1 := by
    intro m
    induction m with
    | zero => exact ⟨rfl, Nat.zero_le _⟩
    | succ m ih =>
      simp only [List.replicate_succ, D.pys, D.py, PyData.canLayAll0, PyData.canLay0, PyData.depthAll, PyData.depth, ha, hb]
      exact ⟨by simpa using ih.1, by have := ih.2; omega⟩
  have h3 := h2 m
  simp only [D.shp, D.isPy, h1, SeqAt.shaped, D.py, PyData.canLay0, PyData.depth, h3.1, Bool.true_and, decide_eq_true_eq]
  omega
/-- what stands behind a day's methods' refusals -/
structure Odd (d : D) : Prop where
  ty : ∃ n, d.tyN = some n
  no : d.inB (-mostN) mostN = false
  rp : Rp d
  so : PyData.strOk d.pd.shown = true
theorem rp_non : Rp .non := rp_of2 True.intro rfl (by decide) (by decide)
theorem rp_bl {b : Bool} : Rp (.bl b) := by cases b <;> exact rp_of2 True.intro rfl (by decide) (by decide)
theorem odd_non : Odd .non := ⟨⟨_, rfl⟩, rfl, rp_non, by decide +kernel⟩
theorem odd_bl {b : Bool} : Odd (.bl b) := ⟨⟨_, rfl⟩, rfl, rp_bl, by cases b <;> decide +kernel⟩
theorem odd_str {x : Str} (so : PyData.strOk (D.str x).pd.shown = true) (h : x.cps.size ≤ 40 ∧ ∀ c ∈ x.cps.toList, c < 16 ^ 8) : Odd (.str x) := ⟨⟨_, rfl⟩, rfl, rp_of2 h rfl (by simp [D.pd, D.py, PyData.depth]) (by simp [D.pd, D.py, pcnt]), so⟩
theorem odd_int {i : Int} (h : i.natAbs < 10 ^ 100) (n : ¬ okDay i) : Odd (.int i) := ⟨⟨_, rfl⟩, decide_eq_false n, rp_int h, strOk_ofString _⟩
theorem odd_tup {ds : List D} (so : PyData.strOk (D.tup ds).pd.shown = true) (h : PSm 100 (D.tup ds).pd) (hi : (D.tup ds).isRp = true) (hd : (D.tup ds).pd.depth ≤ 50) (hc : pcnt (D.tup ds).pd ≤ 300) : Odd (.tup ds) := ⟨⟨_, rfl⟩, rfl, rp_of2 h hi hd hc, so⟩
theorem odd_lst {ds : List D} (so : PyData.strOk (D.lst ds).pd.shown = true) (h : PSm 100 (D.lst ds).pd) (hi : (D.lst ds).isRp = true) (hd : (D.lst ds).pd.depth ≤ 50) (hc : pcnt (D.lst ds).pd ≤ 300) : Odd (.lst ds) := ⟨⟨_, rfl⟩, rfl, rp_of2 h hi hd hc, so⟩
theorem odd_dct0 : Odd (.dct []) := ⟨⟨_, rfl⟩, rfl, rp_of2 rfl rfl (by decide) (by decide), by decide +kernel⟩
section
variable {C : CD} {X : Cx} {Γ : En} {O : Own} {Q : D → Own → Prop} {Cl bc tm : Addr} {j : Nat} {x : Str} {p pos : Pos} {e : Expr} {es : List Expr}
/-- Cycle(.., ..) in a text, of lengths that hold -/
theorem we_cycle (hI : EntI C.M j Cl (TStar 1 (TInitE Cl bc tm))) (hm : C.M.mg x = some (.ref Cl)) (hj : j + 2 ≤ C.k) (gx : x ∈ C.Gs) (he : ∀ env, starEach (e :: es) env = (false, eval e env) :: starEach es env) (hpl : ∀ env, (backTo pos (starEach es env)).any (·.1) = false)
    (h : WA C X (e :: es) Γ O fun ds O1 => ∃ ns, ds = ns.map .int ∧ Good ns ∧ Q (.ins Cl (cycF ns)) O1) : DL.WE C X (.Call (.Name x p) (e :: es) [] pos) Γ O Q := by
  obtain ⟨fi, mk, R⟩ := hI
  refine we_frz (we_cl he hpl (wn_cls hm gx ⟨Cl, rfl, mk.kp, .mk fun ok σ H S k hk => h ok σ H S k fun vs H1 ds O1 ⟨ns, e1, g, q⟩ S1 l1 r1 => hk vs H1 ds O1 ?_ S1 l1 r1⟩))
  subst e1
  exact cb_cycle mk R hj g q
end
end DL
namespace DL
open PySem PySem.Spec PyProof.Rows L2

/-! ### own __eq__, __ne__, __str__, __call__, C.m(o, ..) -/
section
variable {prog : Program} {w : World} {A : Around} {E : Value → Shared → Prop} {s : Shared} {K : PySem.W.Frag} {x C f : Addr} {ox : Obj} {od : Option Obj} {b tb : Value}
theorem ifBound_ne {args : List Value} {Q : Option Value → Shared → Prop} (X : K.In s.heap) (I : PySem.W.InstAt s.heap x ox C od) (hs : PySem.W.findIn K (.ref C) "__ne__" = some (some (.builtin "object.__ne__")))
    (h : wpAny (model prog w) A (call (.builtin "object.__ne__") (.ref x :: args)) (fun v => Q (some v)) E s) : wpAny (model prog w) A (callSpecialIfBound? (.ref x) "__ne__" args) Q E s := by
  simp only [callSpecialIfBound?, bindSpecialIfBound?]
  refine wpAny_holding (wpAny_bind (wpAny_bind (wpAny_bind (I.type.here ((PySem.W.looks_findIn X hs).here ?_)))))
  refine wpAny_bind (wpAny_askSetting (wpAny_ite ?_))
  have fin : wpAny (model prog w) A (call (.builtin "object.__ne__") ([.ref x] ++ args) >>= fun v => pure (some v)) Q E s := wpAny_bind (wpAny_mono h (fun v s' h' => wpAny_pure h') fun _ _ h' => h')
  split
  · exact wpAny_bind (wpAny_of_eq (F.cmp_object.ne.bind _) (wpAny_pure (by exact fin)))
  · exact wpAny_tryCatch (wpAny_bind (wpAny_of_eq (F.cmp_object.ne.bind _) (wpAny_pure (by exact fin))))
theorem cmpNe_K {Q : Value → Shared → Prop} (hu : A.units + 1 < cLine) (X : K.In s.heap) (I : PySem.W.InstAt s.heap x ox C od) (hb : PySem.W.Looks (model prog w) s.heap (typeOf b) tb) (hn : PySem.W.notFirst K C tb = true)
    (h0 : PySem.W.findIn K (.ref C) "__ne__" = some (some (.builtin "object.__ne__"))) (hm : PySem.W.mroIn K C (.type "object") = some true) (hs : PySem.W.findIn K (.ref C) "__eq__" = some (some (.ref f))) (hf : PySem.W.isFn K (.ref f) = true)
    (h : wpAny (model prog w) A.in1 (call (.ref f) [.ref x, b]) (fun v s' => ∃ t, v = .bool t ∧ Q (.bool (!t)) s') E s) : wpAny (model prog w) A (richCompare .NotEq (.ref x) b) Q E s := by
  have ent : wpAny (model prog w) A.in1 (Builtin.«object.__ne__» ⟨[.ref x, b], []⟩) (fun fin s' => ∃ t, fin = .done (.ret (.bool t)) ∧ Q (.bool t) s') E s := by
    unfold Builtin.«object.__ne__»
    refine wpAny_bind (m := slotArgs "__ne__" 1 _) (wpAny_pure ?_)
    refine wpAny_bind (m := cRoomFor _ _) (wpAny_cRoomFor (show A.in1.units < cLine from hu) ?_)
    refine wpAny_bind (m := callSpecialIfBound? (.ref x) (Str.ofString "__eq__") _) (PySem.W.ifBound_K X I hs hf (wpAny_mono h (fun v s' hv => ?_) fun _ _ y => y))
    obtain ⟨t, rfl, q⟩ := hv
    exact wpAny_bind (m := truthy (.bool _)) (wpAny_truthy_bool (wpAny_pure ⟨_, rfl, q⟩))
  have one : wpAny (model prog w) A (tryCompare (.ref x) "__ne__" b) (fun r s' => ∃ v, r = some v ∧ Q v s') E s := by
    unfold tryCompare
    refine wpAny_bind (ifBound_ne X I h0 (wpAny_call (codeAny_call_builtin F.cmp_object.ne.plain F.cmpEntry_ne (PySem.W.check_slot F.cmpKind_ne F.cmpSplit_ne (I.type.andThen (PySem.W.looks_mroIn X hm)) (F.cmpArgs_ne _ _) (wpAny_mono ent (fun fin s' z => ?_) fun _ _ y => y)))))
    obtain ⟨t, rfl, q⟩ := z
    exact wpAny_pure ⟨_, rfl, q⟩
  unfold richCompare
  simp only [oneThing_ref]
  refine wpAny_holding (wpAny_bind (wpAny_cRoomFor (Nat.lt_of_succ_lt hu) ?_))
  rw [cmpInfo_NotEq]
  dsimp only
  refine wpAny_bind (I.type.here (wpAny_bind (hb.here ?_)))
  split
  · rename_i q
    have e : PySem.W.subIn K tb (.ref C) = some false := by
      rcases Bool.or_eq_true_iff.mp hn with e | e
      · rw [beq_iff_eq.mp e] at q; simp at q
      · exact beq_iff_eq.mp e
    refine wpAny_bind ((PySem.W.looks_subIn X e).here ?_)
    simp only [Bool.false_eq_true, if_false]
    refine wpAny_bind (wpAny_mono one (fun r s' z => ?_) fun _ _ e => e)
    obtain ⟨v, rfl, hq⟩ := z
    exact wpAny_pure hq
  · refine wpAny_bind (wpAny_pure ?_)
    simp only [Bool.false_eq_true, if_false]
    refine wpAny_bind (wpAny_mono one (fun r s' z => ?_) fun _ _ e => e)
    obtain ⟨v, rfl, hq⟩ := z
    exact wpAny_pure hq
end
section
variable {C : CD} {X : Cx} {Γ : En} {O : Own} {Q : D → Own → Prop} {Cl : Addr} {j : Nat} {T : TF} {x y : D} {fs : List (Str × D)}
/-- a def that raises nothing, called from anywhere with room -/
theorem run_dfA {f : Addr} {ds : List D} {σ : L2.St} {H : Hp} {vs : List V} {us : List Value} {k : VK} {A : Around} {pins : List (Addr × Obj)} {s : Shared} (F : Df C.M j f T) (h : T ds O Q fun _ _ => False) (ok : Ok C X) (S : Sat C Γ O σ H) (r : Reps C.M.K O.has H ds vs) (hk : KV_ C Γ O σ H Q k)
    (hr : Room j A) (hg : A.guards = some []) (e0 : Env0 C.M.P C.M.w C.M.K C.M.mg C.M.base A X.stack s H) (I : Inv X pins σ H s) (rv : Vals vs us) : wpAny (model X.prog X.w) A (call (.ref f) us) (fun u s' => EP X pins σ k u s') (fun _ _ => False) s := by
  have G := F.run A X.stack s H us [] vs k (fun _ _ _ => False) hr hg e0 (by rw [List.append_nil]; exact rv) rfl
    ⟨ds, O, Q, fun _ _ => False, S.own, r, h, fun v H' d O' q w l r => hk v H' d O' q (S.step l w) l r, fun cls dx H' x O' q w l r => q⟩
  rw [← ok.prog, ← ok.w] at G
  refine wpAny_call (codeAny_mono G fun rs s' hq => ?_)
  match rs, hq with
  | .error e, hq =>
    obtain ⟨_, _, _, _, _, _, _, _, _, _, _, _, q⟩ := hq
    exact q
  | .ok (.ret u), hq => exact I.after hq
theorem env0_of (ok : Ok C X) {pins : List (Addr × Obj)} {σ : L2.St} {H : Hp} {s : Shared} (I : Inv X pins σ H s) : Env0 C.M.P C.M.w C.M.K C.M.mg C.M.base X.A X.stack s H := by
  rw [← ok.prog, ← ok.w, ← ok.K, ← ok.mg, ← ok.base]
  exact I.env0
/-- what of a class with an own __eq__ the two comparisons ask -/
structure EqK (K : PySem.W.Frag) (Cl : Addr) : Prop where
  ne : PySem.W.findIn K (.ref Cl) "__ne__" = some (some (.builtin "object.__ne__"))
  mo : PySem.W.mroIn K Cl (.type "object") = some true
theorem ow_eqOwn {tb : Value} (E : EntM C.M j Cl "__eq__" T) (hc : Cls C.M.K Cl) (hj : j + 1 ≤ C.k) (hi : Ins O x Cl fs) (ty : TyD C.M.K O y tb) (hn : PySem.W.notFirst C.M.K Cl tb = true)
    (h : T [x, y] O (fun d O' => ∃ b, d = .bl b ∧ Q d O') fun _ _ => False) : OW C X (compareOp .Eq) x y Γ O Q := .mk fun ok σ H S v w rx ry k hk pins s v' w' I rv rw' => by
  obtain ⟨a, dx, gs, rfl, ea, rf⟩ := hi.ok S.own rx
  obtain rfl : v' = Value.ref a := rv
  obtain ⟨f, mt, F⟩ := E
  obtain ⟨mA, Ob, _, _, _, _⟩ := ins_get I.hok ea
  obtain ⟨od, J, _⟩ := Ob.look
  have ty' : TyX X.K H w tb := by rw [ok.K]; exact ty.ok S.own ry
  obtain ⟨P, kx, hP, _⟩ := kit_of I rw' ty'
  obtain ⟨m, hF⟩ := I.fr
  have at_ : PySem.W.findIn X.K (.ref Cl) "__eq__" = some (some (.ref f)) := by rw [ok.K]; exact mt.at_
  have fn : PySem.W.isFn X.K (.ref f) = true := by rw [ok.K]; exact mt.fn
  refine PySem.W.cmp_K (op := .Eq) (by have := ok.room.un; omega) hF I.ok.mod.kin J (kx.ty _ _ I.kIn hP) (by rw [ok.K]; exact hn) at_ fn ?_
  refine wpAny_mono (run_dfA (k := fun v H' => ∃ b, v = .bl b ∧ k v H') (Q := fun d O' => ∃ b, d = .bl b ∧ Q d O') F h ok S (reps_cons.mpr ⟨_, _, rfl, rx, reps_cons.mpr ⟨_, _, rfl, ry, reps_nil.mpr rfl⟩⟩) (fun v H' d O' ⟨b, e, q⟩ S' l r => ⟨b, by subst e; exact rep_bl.mp r, hk v H' d O' q S' l r⟩) (ok.room.mono (by omega)) ok.grd (env0_of ok I) I (.cons rfl (.cons rw' .nil))) (fun u s' q => ?_) fun _ _ q => q.elim
  obtain ⟨v, H', I', r, b, e, q⟩ := q
  subst e
  obtain rfl : u = Value.bool b := r
  exact ⟨.bl b, H', I', rfl, q⟩
theorem ow_neOwn {tb : Value} (E : EntM C.M j Cl "__eq__" T) (hc : Cls C.M.K Cl) (eq : EqK C.M.K Cl) (hj : j + 1 ≤ C.k) (hi : Ins O x Cl fs) (ty : TyD C.M.K O y tb) (hn : PySem.W.notFirst C.M.K Cl tb = true)
    (h : T [x, y] O (fun d O' => ∃ b, d = .bl b ∧ Q (.bl (!b)) O') fun _ _ => False) : OW C X (compareOp .NotEq) x y Γ O Q := .mk fun ok σ H S v w rx ry k hk pins s v' w' I rv rw' => by
  obtain ⟨a, dx, gs, rfl, ea, rf⟩ := hi.ok S.own rx
  obtain rfl : v' = Value.ref a := rv
  obtain ⟨f, mt, F⟩ := E
  obtain ⟨mA, Ob, _, _, _, _⟩ := ins_get I.hok ea
  obtain ⟨od, J, _⟩ := Ob.look
  have ty' : TyX X.K H w tb := by rw [ok.K]; exact ty.ok S.own ry
  obtain ⟨P, kx, hP, _⟩ := kit_of I rw' ty'
  have KX : C.M.K.In s.heap := by rw [← ok.K]; exact I.kIn
  show wpAny (model X.prog X.w) X.A (richCompare .NotEq (.ref a) w') (EP X pins σ k) X.xe s
  refine cmpNe_K (K := C.M.K) (by have := ok.room.un; omega) KX J (kx.ty _ _ I.kIn hP) hn eq.ne eq.mo mt.at_ mt.fn ?_
  refine wpAny_mono (run_dfA (k := fun v H' => ∃ b, v = .bl b ∧ k (.bl (!b)) H') (Q := fun d O' => ∃ b, d = .bl b ∧ Q (.bl (!b)) O') F h ok S (reps_cons.mpr ⟨_, _, rfl, rx, reps_cons.mpr ⟨_, _, rfl, ry, reps_nil.mpr rfl⟩⟩) (fun v H' d O' ⟨b, e, q⟩ S' l r => ⟨b, by subst e; exact rep_bl.mp r, hk (.bl (!b)) H' (.bl (!b)) O' q S' l (rep_bl.mpr rfl)⟩) (ok.room.mono hj).in1 ok.grd (env0_of ok I).in1 I (.cons rfl (.cons rw' .nil))) (fun u s' q => ?_) fun _ _ q => q.elim
  obtain ⟨v, H', I', r, b, e, q⟩ := q
  subst e
  obtain rfl : u = Value.bool b := r
  exact ⟨b, rfl, .bl (!b), H', I', rfl, q⟩
/-- str(x), x with an own __str__ -/
theorem bf_strOwn (E : EntM C.M j Cl "__str__" T) (hc : Cls C.M.K Cl) (hj : j + 2 ≤ C.k) (hi : Ins O x Cl fs) (h : T [x] O (fun d O' => ∃ z, d = .str z ∧ Q d O') fun _ _ => False) : BF C (.type "str") [x] Γ O Q := .mk fun X ok σ H S vs rv k hk pins s us I r => by
  obtain ⟨v, rfl, rx⟩ := reps1 rv
  obtain ⟨a, dx, gs, rfl, ea, rf⟩ := hi.ok S.own rx
  obtain ⟨u, rfl, ru⟩ : ∃ u, us = [u] ∧ RelV (.ref a) u := by
    cases r with
    | cons r rr => cases rr; exact ⟨_, rfl, r⟩
  obtain rfl : u = Value.ref a := ru
  obtain ⟨f, mt, F⟩ := E
  obtain ⟨mA, Ob, _, _, _, _⟩ := ins_get I.hok ea
  obtain ⟨od, J, _⟩ := Ob.look
  have KX : C.M.K.In s.heap := by rw [← ok.K]; exact I.kIn
  refine PySem.W.kso_call (K := C.M.K) (by have := ok.room.un; show X.A.units + 1 + 1 < cLine; omega) KX J mt.at_ mt.fn ?_
  refine wpAny_mono (run_dfA (k := fun v H' => ∃ z, v = .str z ∧ k v H') (Q := fun d O' => ∃ z, d = .str z ∧ Q d O') F h ok S (reps_cons.mpr ⟨_, _, rfl, rx, reps_nil.mpr rfl⟩) (fun v H' d O' ⟨z, e, q⟩ S' l r => ⟨z, by subst e; exact rep_str.mp r, hk v H' d O' q S' l r⟩) ((ok.room.mono hj).in1.in1) ok.grd (env0_of ok I).in1.in1 I (.cons rfl .nil)) (fun u s' q => ?_) fun _ _ q => q.elim
  obtain ⟨v, H', I', r, z, e, q⟩ := q
  subst e
  obtain ⟨t, rfl⟩ := r
  exact ⟨.str z, H', I', ⟨t, rfl⟩, q⟩
end
section
variable {C : CD} {X : Cx} {Γ : En} {O : Own} {Q : D → Own → Prop} {e o : Expr} {es : List Expr} {pos p : Pos} {m x : Str} {j : Nat} {T : TF} {Cl : Addr} {pl : Env → Sem Bool}
/-- instances of the class may be called -/
def EntO (M : Md) (j : Nat) (Cl : Addr) (T : TF) : Prop := ∃ f, StX.CallO M.K Cl f ∧ Df M j f T
/-- x(e, ..), x an instance -/
theorem we_callO (he : ∀ env, starEach (e :: es) env = (false, eval e env) :: starEach es env) (hpl : ∀ env, (backTo pos (starEach es env)).any (·.1) = false)
    (h : DL.WE C X (.Name x p) Γ O fun d O1 => ∃ Cl fs j T, Ins O1 d Cl fs ∧ EntO C.M j Cl T ∧ j + 1 ≤ C.k ∧ WA C X (e :: es) Γ O1 fun ds O2 => Ins O2 d Cl fs ∧ T (d :: ds) O2 Q fun x O' => C.ED x Γ O') : DL.WE C X (.Call (.Name x p) (e :: es) [] pos) Γ O Q := .mk fun ok σ H S k hk pins s I => by
  refine wpAny_Call_Name_kw (thn (h ok σ H S (fun v H1 => ∃ a g Cl, v = .ref a ∧ StX.CallO X.K Cl g ∧ AW X (e :: es) σ H1 fun vs H2 => (∃ dx fs, H2 a = some (.ins Cl dx fs)) ∧ ∀ (pins : List (Addr × Obj)) (s : Shared) (us : List Value), Inv X pins σ H2 s → Vals vs us → codeAny (model X.prog X.w) X.A (.call (.ref g) ⟨.ref a :: us, []⟩) (RF X pins σ k) s) (fun v H1 d O1 q1 S1 l1 r1 => ?_) pins s I) fun u s1 ⟨v, H1, I1, r1, a, g, Cl, ev, co, q⟩ => ?_)
  · obtain ⟨Cl, fs, j, T, i, ⟨f, co, F⟩, hj, q⟩ := q1
    obtain ⟨pa, dx, gs, rfl, ea, rf⟩ := i.ok S1.own r1
    refine ⟨pa, f, Cl, rfl, by rw [ok.K]; exact co, ?_⟩
    refine q ok σ H1 S1 _ fun vs H2 ds O2 ⟨i2, q2⟩ S2 l2 r2 => ?_
    have r1' := Rep.le l2 r1
    obtain ⟨pa', dx', gs', e', ea', _⟩ := i2.ok S2.own r1'
    cases e'
    exact ⟨⟨dx', gs', ea'⟩, fun pins s us I rv => (cb_df F hj q2) X ok σ H2 S2 (.ref pa :: vs) (by rw [List.append_nil]; exact reps_cons.mpr ⟨_, _, rfl, r1', r2⟩) k (hk.le (l1.trans l2)) X.A pins s (.ref pa :: us) [] (.inl rfl) I (by rw [List.append_nil]; exact .cons rfl rv) rfl⟩
  · subst ev
    obtain rfl : u = Value.ref a := r1
    refine StX.callO_with (thn (q pos pins s1 I1) fun us s2 ⟨vs, H2, I2, r, ⟨dx, gs, ea⟩, q2⟩ => ?_) (he _) (hpl _)
    obtain ⟨mA, Ob, _⟩ := ins_get I2.hok ea
    obtain ⟨od, J, _⟩ := Ob.look
    refine ⟨⟨Cl, _, od, J, rfl⟩, wpAny_call (PySem.W.kco_code I2.kIn J rfl co.at_ co.fn co.fi (codeAny_mono (q2 pins s2 us I2 r) fun rs s' qq => ?_))⟩
    match rs, qq with
    | .error e, qq => exact qq
    | .ok (.ret u), qq => exact qq
/-- C.m(o, ..), m a plain def of the class C -/
def EntU (M : Md) (j : Nat) (Cl : Addr) (m : Str) (T : TF) : Prop := ∃ f mc, ClX.CRead M.K Cl mc ∧ PySem.W.findCls M.K (.ref Cl) mc m = some (.val (.ref f)) ∧ Df M j f T
theorem we_uc (E : EntU C.M j Cl m T) (hj : j + 1 ≤ C.k) (hb : MethNode o m p pos (e :: es) [] pl)
    (he : ∀ env, starEach (e :: es) env = (false, eval e env) :: starEach es env) (hpl : ∀ env, (backTo pos (starEach es env)).any (·.1) = false)
    (h : DL.WE C X o Γ O fun d O1 => d = .ref Cl ∧ WA C X (e :: es) Γ O1 fun ds O2 => T ds O2 Q fun x O' => C.ED x Γ O') : DL.WE C X (.Call (.Attribute o m p) (e :: es) [] pos) Γ O Q := .mk fun ok σ H S k hk pins s I => by
  obtain ⟨f, mc, cr, at_, F⟩ := E
  refine PySem.W.methodCall_KW (pl := pl X.env) (thn (h ok σ H S (fun x H1 => x = .ref Cl ∧ AW X (e :: es) σ H1 fun vs H2 => CallK C X f [] σ k vs [] H2) (fun v H1 d O1 ⟨e1, q⟩ S1 l1 r1 => ?_) pins s I) fun u s1 ⟨x, H1, I1, rx, ex, q⟩ => ?_) (hb _)
  · subst e1
    exact ⟨rep_ref.mp r1, q ok σ H1 S1 _ fun vs H2 ds O2 q2 S2 l2 r2 => (cb_df F hj q2).call ok S2 (hk.le (l1.trans l2)) r2 (reps_nil.mpr rfl)⟩
  · subst ex
    obtain rfl : u = Value.ref Cl := rx
    have cr' : ClX.CRead X.K Cl mc := by rw [ok.K]; exact cr
    refine PySem.W.method_cls I1.kIn cr'.ga (PySem.W.cls_value I1.kIn cr'.rd (v := .ref f) (by rw [ok.K]; exact at_) rfl ?_)
    have I2 := I1.tok (s1.toks + 1)
    exact PySem.W.callWith_K (first := []) (h₀ := X.base) I.ok.mod.kin (by rw [ok.K]; exact F.kp) (thn (q pos _ _ I2) fun us s2 ⟨vs, H2, I3, r, q2⟩ => ⟨I3.kIn, q2 _ s2 us [] I3 r .nil rfl⟩) (he _) (hpl _)
end
end DL
namespace DL
open PySem PySem.Spec PyProof.Rows L2
open Sem (wp)
open AutoSeq1 (wpAny_loadPart')

/-! ### list(range), tuple(range), bounds of any size -/
section
variable {prog : Program} {w : World} {A : Around} {E : Value → Shared → Prop} {s : Shared} {q : Addr} {lo hi st : Int} {t1 t2 t3 : Tok} {m : Nat}
abbrev FarI (lo st : Int) : Nat → Value → Prop := fun i v => ∃ t, v = .int (lo + i * st) t
theorem far_ext {R : Result → Shared → Prop} (calm : A.handled = none) (rg : IsRange s.heap q lo hi st t1 t2 t3) (big : Builtin.Range.small lo hi st = false) (cnt : Builtin.Range.rangeSize lo hi st = m) (few : m ≤ 2 ^ 24) (D : Addr) (res : Value) (c0 : Nat)
    (hD : s.heap.get? D = some { cls := .type "list", data := .seq #[] c0 })
    (fin : ∀ h1 tk xs c1, (∀ b o, b ≠ D → s.heap.get? b = some o → h1.get? b = some o) → h1.get? D = some { cls := .type "list", dict := none, data := .seq xs c1, slots := #[] } → ItemsOf (FarI lo st) xs m → R (.ok (.ret res)) { s with heap := h1, toks := tk }) :
    wpAny (model prog w) A.in1 (Builtin.List.listExtendWith (.ref D) (.ref q) res) (fun f s1 => match f with | .done f => R (.ok f) s1 | .again c => c.quiet = true ∧ codeAny (model prog w) A c R s1) (fun e s1 => R (.error e) s1) s := by
  have dq : D ≠ q := fun e => by (rw [e, rg] at hD; simp at hD)
  have dn : D ≠ s.heap.objs.size := Nat.ne_of_lt (Heap.lt_size hD)
  have dm : D ∉ [s.heap.objs.size] := fun z => dn (List.mem_singleton.mp z)
  have go : ∀ (h : Heap) (c1 tk : Nat), IsLongIter h s.heap.objs.size (lo + ((0 : Nat) : Int) * st) ((m : Int) - ((0 : Nat) : Int)) st → (∀ b o, b ≠ D → s.heap.get? b = some o → h.get? b = some o) → h.get? D = some { cls := .type "list", data := .seq #[] c1 } →
      codeAny (model prog w) A (.builtin "list.extend.loop" ⟨[.ref D, .ref s.heap.objs.size, res], []⟩) R { s with heap := h, toks := tk } := fun h c1 tk it kp at1 => by
    refine codeAny_extend_loopS (Walks.longrange (prog := prog) (w := w) (A := A.in1) calm s.heap.objs.size lo st m).toS (by rw [sizeLine_eq]; omega) D dm res m 0 _ #[] c1 rfl (Nat.zero_le _) it at1 (ItemsOf.nil _) fun s2 xs c2 mv at2 its => ?_
    rw [Moved.eq_with mv]; refine fin s2.heap s2.toks xs c2 (fun b o nb e => mv.heap b o (fun z => ?_) (kp b o nb e)) at2 its
    rcases List.mem_cons.mp z with z | z
    · exact nb z
    · rw [List.mem_singleton.mp z] at e; exact absurd (Heap.lt_size e) (Nat.lt_irrefl _)
  unfold Builtin.List.listExtendWith; refine wpAny_bind (wpAny_typeOf (T := "range") ⟨_, rg, rfl⟩ ?_)
  have g1 : Builtin.List.listSameRef (.ref D) (.ref q) = false := (by simp [Builtin.List.listSameRef, dq])
  have g2 : (Value.type "range" == Value.type "list") = false := (by decide)
  have g3 : (Value.type "range" == Value.type "tuple") = false := (by decide)
  simp only [g1, g2, g3, Bool.or_false, Bool.false_eq_true, if_false]; refine wpAny_bind (wpAny_pyIter_longrange rg big ?_)
  refine wpAny_bind (wpAny_holding (wpAny_hint_range (n := m) (Heap.get?_push_of_some _ rg) cnt few ?_))
  have it1 : IsLongIter (s.heap.push { cls := .type "longrange_iterator", data := .fields #[rawInt lo, rawInt (Builtin.Range.rangeSize lo hi st), rawInt st] }) s.heap.objs.size (lo + ((0 : Nat) : Int) * st) ((m : Int) - ((0 : Nat) : Int)) st := by
    show IsLongIter _ _ _ _ _; rw [cnt]; simpa using Heap.get?_push_size s.heap (o := { cls := .type "longrange_iterator", data := .fields #[rawInt lo, rawInt (m : Int), rawInt st] }) rfl
  have at1 := Heap.get?_push_of_some { cls := .type "longrange_iterator", data := .fields #[rawInt lo, rawInt (Builtin.Range.rangeSize lo hi st), rawInt st] } hD
  refine wpAny_ite_split (fun _ => ?_) (fun _ => wpAny_pure ⟨plainId_quiet F.plain_extend_loop _, go _ c0 _ it1 (fun b o _ e => Heap.get?_push_of_some _ e) at1⟩)
  refine wpAny_bind (wpAny_rule ?_); refine wpAny_bind ?_
  show wpAny _ _ (updateSeq D (·.push .none) >>= fun _ => updateSeq D (·.pop)) _ _ _
  refine wpAny_bind (wpAny_updateSeq at1 rfl ?_)
  have at2 := Heap.get?_update_self (Obj.mapSeq (·.push Value.none)) at1 rfl
  refine wpAny_updateSeq (hz := by seq_fits) at2 rfl ?_
  have at3 := Heap.get?_update_self (Obj.mapSeq (·.pop)) at2 rfl
  refine wpAny_pure ⟨plainId_quiet F.plain_extend_loop _, go _ _ _ ?_ (fun b o nb e => ?_) at3⟩
  · exact (Heap.get?_update_other _ _ dn).trans ((Heap.get?_update_other _ _ dn).trans it1)
  · exact (Heap.get?_update_other _ _ (Ne.symm nb)).trans ((Heap.get?_update_other _ _ (Ne.symm nb)).trans (Heap.get?_push_of_some _ e))
theorem far_list {Q : Value → Shared → Prop} (calm : A.handled = none) (rg : IsRange s.heap q lo hi st t1 t2 t3) (big : Builtin.Range.small lo hi st = false) (cnt : Builtin.Range.rangeSize lo hi st = m) (few : m ≤ 2 ^ 24)
    (fin : ∀ h1 tk xs c1, (∀ b o, s.heap.get? b = some o → h1.get? b = some o) → h1.get? s.heap.objs.size = some { cls := .type "list", dict := none, data := .seq xs c1, slots := #[] } → ItemsOf (FarI lo st) xs m → Q (.ref s.heap.objs.size) { s with heap := h1, toks := tk }) :
    wpAny (model prog w) A (call (.type "list") [.ref q]) Q E s := by
  refine callType_codes (Q₁ := fun ob s1 => ob = .ref s.heap.objs.size ∧ s1 = { s with heap := s.heap.push { cls := .type "list", data := .seq #[] } }) F.called_list (F.typeCall_list_1 _) F.entry_list_init (code_list_new _ ⟨rfl, rfl⟩) fun ob s1 ⟨e1, e2⟩ => ?_
  subst e1; subst e2
  have hD : (s.heap.push { cls := .type "list", data := .seq #[] }).get? s.heap.objs.size = some { cls := .type "list", data := .seq #[] } := Heap.get?_push_size _ rfl
  have ne : s.heap.objs.size ≠ q := fun e => Nat.lt_irrefl _ (by have := Heap.lt_size rg; rw [← e] at this; exact this)
  refine ⟨⟨_, hD, rfl⟩, F.args_list_init_2 _ _, ?_⟩
  show wpAny _ _ (do let old ← Builtin.List.listItems (.ref s.heap.objs.size); Builtin.List.listUpdate (.ref s.heap.objs.size) (fun _ => #[]); letGo old.toList.reverse; Builtin.List.listExtendWith (.ref s.heap.objs.size) (.ref q) .none) _ _ _
  refine wpAny_bind ?_; unfold Builtin.List.listItems; refine wpAny_bind (wpAny_seqItems hD rfl (wpAny_pure ?_))
  show wpAny _ _ (updateSeq s.heap.objs.size (fun _ => #[]) >>= fun _ => letGo (#[] : Array Value).toList.reverse >>= fun _ => Builtin.List.listExtendWith (.ref s.heap.objs.size) (.ref q) .none) _ _ _
  refine wpAny_bind (wpAny_updateSeq hD rfl ?_)
  have hD2 := Heap.get?_update_self (Obj.mapSeq (fun _ => (#[] : Array Value))) hD rfl
  have kp : ∀ b o, b ≠ s.heap.objs.size → (s.heap.push { cls := .type "list", data := .seq #[] }).get? b = some o → ((s.heap.push { cls := .type "list", data := .seq #[] }).update s.heap.objs.size (Obj.mapSeq (fun _ => (#[] : Array Value)))).get? b = some o :=
    fun b o nb e => by rw [Heap.get?_update_other _ _ (Ne.symm nb)]; exact e
  refine wpAny_bind (wpAny_letGo ?_)
  refine far_ext (A := A.in1) calm (kp q _ (Ne.symm ne) (Heap.get?_push_of_some _ rg)) big cnt few s.heap.objs.size .none _ hD2 fun h1 tk xs c1 k e its => ?_
  exact ⟨rfl, fin h1 tk xs c1 (fun b o eb => k b o (Nat.ne_of_lt (Heap.lt_size eb)) (kp b o (Nat.ne_of_lt (Heap.lt_size eb)) (Heap.get?_push_of_some _ eb))) e its⟩
theorem far_collect {Q : List Value → Shared → Prop} (calm : A.handled = none) (rg : IsRange s.heap q lo hi st t1 t2 t3) (big : Builtin.Range.small lo hi st = false) (cnt : Builtin.Range.rangeSize lo hi st = m) (few : m ≤ 2 ^ 24)
    (fin : ∀ (h1 : Heap) (tk : Nat) (xs : Array Value), (∀ b o, s.heap.get? b = some o → h1.get? b = some o) → ItemsOf (FarI lo st) xs m → Q xs.toList { s with heap := h1, toks := tk }) : wpAny (model prog w) A (collect (.ref q)) Q E s := by
  unfold collect; refine wpAny_bind (wpAny_runValue (codeAny_builtin F.entry_proto_collect ?_))
  rw [Around.under_plainId F.plain_proto_collect _]; show wpAny _ A.in1 (newList [] >>= fun l => again (.builtin "list.__iadd__" ⟨[l, .ref q], []⟩)) _ _ s
  refine wpAny_bind (wpAny_newObj_type ?_); refine wpAny_pure ⟨plainId_quiet F.plain_list_iadd _, codeAny_builtin F.entry_list_iadd ?_⟩
  rw [Around.under_plainId F.plain_list_iadd _]; show wpAny _ A.in1 (Builtin.List.listExtendWith (.ref s.heap.objs.size) (.ref q) (.ref s.heap.objs.size)) _ _ _
  have hD : (s.heap.push { cls := .type "list", data := .seq ([] : List Value).toArray }).get? s.heap.objs.size = some { cls := .type "list", data := .seq #[] 0 } := Heap.get?_push_size _ rfl
  refine wpAny_mono (far_ext (A := A) (R := fun rr s1 => rr = .ok (.ret (.ref s.heap.objs.size)) ∧ ∃ (h1 : Heap) (tk : Nat) (xs : Array Value) (c1 : Nat), s1 = { s with heap := h1, toks := tk } ∧ (∀ b o, s.heap.get? b = some o → h1.get? b = some o) ∧ h1.get? s.heap.objs.size = some { cls := .type "list", dict := none, data := .seq xs c1, slots := #[] } ∧ ItemsOf (FarI lo st) xs m)
    (s := { s with heap := s.heap.push { cls := .type "list", data := .seq ([] : List Value).toArray } }) calm (Heap.get?_push_of_some _ rg) big cnt few _ _ 0 hD
    (fun h1 tk xs c1 k e its => ⟨rfl, h1, tk, xs, c1, rfl, fun b o eb => k b o (Nat.ne_of_lt (Heap.lt_size eb)) (Heap.get?_push_of_some _ eb), e, its⟩)) (fun f s1 z => ?_) (fun e s1 z => absurd z.1 (by simp))
  cases f with
  | done f =>
    obtain ⟨e, h1, tk, xs, c1, rfl, k, at1, its⟩ := z; cases e
    show wpAny _ A (load s.heap.objs.size >>= _) _ _ _; exact wpAny_bind (wpAny_load at1 (wpAny_pure (fin h1 tk xs k its)))
  | again c =>
    refine ⟨z.1, codeAny_mono z.2 fun rr s2 zz => ?_⟩; obtain ⟨rfl, h1, tk, xs, c1, rfl, k, at1, its⟩ := zz
    show wpAny _ A (load s.heap.objs.size >>= _) _ _ _; exact wpAny_bind (wpAny_load at1 (wpAny_pure (fin h1 tk xs k its)))
theorem far_tuple {Q : Value → Shared → Prop} (calm : A.handled = none) (rg : IsRange s.heap q lo hi st t1 t2 t3) (big : Builtin.Range.small lo hi st = false) (cnt : Builtin.Range.rangeSize lo hi st = m) (few : m ≤ 2 ^ 24)
    (fin : ∀ (h1 : Heap) (tk : Nat) (xs : Array Value), (∀ b o, s.heap.get? b = some o → h1.get? b = some o) → ItemsOf (FarI lo st) xs m → Q (.ref h1.objs.size) { s with heap := h1.push { cls := .type "tuple", data := .seq xs }, toks := tk }) : wpAny (model prog w) A (call (.type "tuple") [.ref q]) Q E s := by
  refine callType_codes (Q₁ := fun ob s1 => s1.TypeIs ob "tuple" ∧ Q ob s1) F.called_tuple (F.typeCall_tuple_1 _) F.entry_object_init ?_ fun ob s1 z => ⟨z.1, F.args_object_init_2 ob _, object_init_meets F.called_tuple.init.lookup F.called_tuple.made (by decide) prog w A.in1 _ s1 ⟨z.1, rfl, z.2⟩⟩
  refine codeAny_of_tree ?_
  show wpAny _ A.in1.in1 (do checkBuiltinCall "tuple.__new__" ⟨[.type "tuple", .ref q], []⟩; again (.builtin "tuple.__new__" ⟨[.type "tuple", .ref q], []⟩)) _ _ s
  refine wpAny_bind (wpAny_of_eq (F.newCall_tuple_1 _) (wpAny_pure ⟨plainId_quiet F.plain_tuple_new _, codeAny_builtin F.entry_tuple_new ?_⟩)); rw [Around.under_plainId F.plain_tuple_new _]
  have z1 := sub_tuple_self; have z2 := init_tuple_lookup; have z3 := madeHere_tuple
  have ti : s.TypeIs (.ref q) "range" := ⟨_, rg, rfl⟩
  have calm2 : A.in1.in1.handled = none := calm
  wp_walk using wpAny_typeOf ti, far_collect (A := A.in1.in1) calm2 rg big cnt few
  intro h1 tk xs k its
  show wpAny _ _ (Builtin.Tuple.tupleExact xs.toList.toArray >>= fun v => ret v) _ _ _
  unfold Builtin.Tuple.tupleExact
  refine wpAny_bind (wpAny_newObj_type ?_ (by show xs.toList.toArray.size ≤ sizeLine; rw [Array.toArray_toList, its.1, sizeLine_eq]; omega)); refine wpAny_pure ?_
  rw [show xs.toList.toArray = xs by simp]
  exact ⟨⟨_, Heap.get?_push_size _ rfl, rfl⟩, fin h1 tk xs k its⟩
end
section
variable {C : CD} {X : Cx} {Γ : En} {O : Own} {Q : D → Own → Prop} {a b : Expr} {p p2 pos pos2 : Pos}
theorem rgV_rngD {i j : Int} : rgV i j = ((List.range (j - i).toNat).map fun (k : Nat) => i + (k : Int)).map V.int := by unfold rgV; rw [List.map_map]; rfl
theorem rngD_ints {i : Int} {n : Nat} : rngD i n = ((List.range n).map fun (k : Nat) => i + (k : Int)).map D.int := by unfold rngD; rw [List.map_map]; rfl
/-- the range object of two numbers -/
theorem rng_new (ok : Ok C X) {σ : L2.St} {H : Hp} (S : Sat C Γ O σ H) {R : Int → Int → Hp → Prop} (hm : C.M.mg "range" = none) (g : ("range" : Str) ∈ C.Gs) (hs : ∀ env, starEach [a, b] env = (false, eval a env) :: starEach [b] env) (hp : ∀ env, (backTo pos (starEach [b] env)).any (·.1) = false)
    (h : WA C X [a, b] Γ O fun ds O1 => ∃ i j, ds = [.int i, .int j] ∧ ∀ H1, Sat C Γ O1 σ H1 → Le O H O1 H1 → R i j H1) {pins : List (Addr × Obj)} {s : Shared} (I : Inv X pins σ H s) :
    wpAny (model X.prog X.w) X.A (eval (.Call (.Name "range" p) [a, b] [] pos) X.env) (fun x s1 => ∃ r i j t u v H1, x = .ref r ∧ IsRange s1.heap r i j 1 t u v ∧ Inv X pins σ H1 s1 ∧ R i j H1) X.xe s := by
  have gx := ok.gl _ g
  refine Call_ (ld_blt I gx.1 (by rw [ok.mg]; exact hm) boot_range (PyProof.Rows.callWith_type1 (thn (h ok σ H S (fun vs H1 => ∃ i j, vs = [.int i, .int j] ∧ R i j H1) (fun vs H1 ds O1 ⟨i, j, e, q⟩ S1 l1 r1 => ?_) pos pins s I) fun us s2 ⟨vs, H2, I2, r, i, j, e, q⟩ => ?_) (hs _) (hp _)))
  · subst e
    obtain ⟨v, v', rfl, r1, r2⟩ := reps2 r1
    rw [rep_int] at r1 r2
    subst r1; subst r2
    exact ⟨i, j, rfl, q H1 S1 l1⟩
  · subst e
    cases r with
    | cons ra r => cases r with
      | cons rb r => cases r; obtain ⟨t, rfl⟩ := ra; obtain ⟨t', rfl⟩ := rb; exact call_range_2 ⟨_, i, j, _, _, _, H2, rfl, IsRange.new _ _ _ _ _ _ _, I2.kept fun b u e => Heap.get?_push_of_some _ e, q⟩
theorem we_lstR (hl : C.M.mg "list" = none) (gl : ("list" : Str) ∈ C.Gs) (hm : C.M.mg "range" = none) (g : ("range" : Str) ∈ C.Gs) (hs1 : ∀ env, starEach [.Call (.Name "range" p) [a, b] [] pos] env = (false, eval (.Call (.Name "range" p) [a, b] [] pos) env) :: starEach [] env)
    (hs : ∀ env, starEach [a, b] env = (false, eval a env) :: starEach [b] env) (hp : ∀ env, (backTo pos (starEach [b] env)).any (·.1) = false)
    (h : WA C X [a, b] Γ O fun ds O1 => ∃ i j, ds = [.int i, .int j] ∧ (j - i).toNat ≤ 1000 ∧ Q (.lst (rngD i (j - i).toNat)) O1) : DL.WE C X (.Call (.Name "list" p2) [.Call (.Name "range" p) [a, b] [] pos] [] pos2) Γ O Q := .mk fun ok σ H S k hk pins s I => by
  have gx := ok.gl _ gl
  refine Call_ (ld_blt I gx.1 (by rw [ok.mg]; exact hl) boot_list (PyProof.Rows.callWith_type1 (args_cons (thn (rng_new (R := fun i j H1 => (j - i).toNat ≤ 1000 ∧ ∀ q, H1 q = none → k (.ref q) (upd H1 q (.lst (rgV i j)))) ok S hm g hs hp (.mk fun ok σ H S k2 hk2 => h ok σ H S k2 fun vs H1 ds O1 ⟨i, j, e, few, q⟩ S1 l1 r1 => hk2 vs H1 ds O1 ⟨i, j, e, fun H1 S1 l1 => ⟨few, fun q' hq' => ?_⟩⟩ S1 l1 r1) I) fun x s1 ⟨r, i, j, t, u, v, H1, ex, rg, I1, few, q⟩ => args_nil ?_) (hs1 _)) (hs1 _)))
  · refine (hk.le l1).new S1 hq' q ?_
    rw [rngD_ints, rgV_rngD]
    simp only [Rep]
    exact ⟨q', _, rfl, S1.own.nothas hq', upd_same, reps_ints.mpr rfl⟩
  · subst ex
    have fin : ∀ (h1 : Heap) (tk : Nat) (xs : Array Value) (c1 : Nat), (∀ b o, s1.heap.get? b = some o → h1.get? b = some o) → h1.get? s1.heap.objs.size = some { cls := .type "list", dict := none, data := .seq xs c1, slots := #[] } → ItemsOf (FarI i 1) xs (j - i).toNat → EP X pins σ k (.ref s1.heap.objs.size) { s1 with heap := h1, toks := tk } := fun h1 tk xs c1 kp e its => by
      refine ⟨.ref s1.heap.objs.size, upd H1 s1.heap.objs.size (.lst (rgV i j)), I1.laid kp (Nat.le_refl _) (show ObjOk X.prog X.w _ _ _ (.lst (rgV i j)) from ⟨sz (by rw [rgV_length]; exact few), xs.toList, c1, vals_rg its, by rw [Array.toArray_toList]; exact e⟩), rfl, q _ (I1.hok.fresh (Nat.le_refl _))⟩
    cases sm : Builtin.Range.small i j 1 with
    | true => exact call_list_range (n := (j - i).toNat) (I1.ok.hd ok.calm) rg sm (rangeSize_nat i j) (by omega) fin
    | false => exact far_list (m := (j - i).toNat) (I1.ok.hd ok.calm) rg sm (rangeSize_nat i j) (by omega) fin
theorem we_tupR (hl : C.M.mg "tuple" = none) (gl : ("tuple" : Str) ∈ C.Gs) (hm : C.M.mg "range" = none) (g : ("range" : Str) ∈ C.Gs) (hs1 : ∀ env, starEach [.Call (.Name "range" p) [a, b] [] pos] env = (false, eval (.Call (.Name "range" p) [a, b] [] pos) env) :: starEach [] env)
    (hs : ∀ env, starEach [a, b] env = (false, eval a env) :: starEach [b] env) (hp : ∀ env, (backTo pos (starEach [b] env)).any (·.1) = false)
    (h : WA C X [a, b] Γ O fun ds O1 => ∃ i j, ds = [.int i, .int j] ∧ (j - i).toNat ≤ 1000 ∧ Q (.tup (rngD i (j - i).toNat)) O1) : DL.WE C X (.Call (.Name "tuple" p2) [.Call (.Name "range" p) [a, b] [] pos] [] pos2) Γ O Q := .mk fun ok σ H S k hk pins s I => by
  have gx := ok.gl _ gl
  refine Call_ (ld_blt I gx.1 (by rw [ok.mg]; exact hl) boot_tuple (PyProof.Rows.callWith_type1 (args_cons (thn (rng_new (R := fun i j H1 => (j - i).toNat ≤ 1000 ∧ ∀ q, H1 q = none → k (.ref q) (upd H1 q (.tup (rgV i j)))) ok S hm g hs hp (.mk fun ok σ H S k2 hk2 => h ok σ H S k2 fun vs H1 ds O1 ⟨i, j, e, few, q⟩ S1 l1 r1 => hk2 vs H1 ds O1 ⟨i, j, e, fun H1 S1 l1 => ⟨few, fun q' hq' => ?_⟩⟩ S1 l1 r1) I) fun x s1 ⟨r, i, j, t, u, v, H1, ex, rg, I1, few, q⟩ => args_nil ?_) (hs1 _)) (hs1 _)))
  · refine (hk.le l1).new S1 hq' q ?_
    rw [rngD_ints, rgV_rngD]
    simp only [Rep]
    exact ⟨q', _, rfl, S1.own.nothas hq', upd_same, reps_ints.mpr rfl⟩
  · subst ex
    have fin : ∀ (h1 : Heap) (tk : Nat) (xs : Array Value), (∀ b o, s1.heap.get? b = some o → h1.get? b = some o) → ItemsOf (FarI i 1) xs (j - i).toNat → EP X pins σ k (.ref h1.objs.size) { s1 with heap := h1.push { cls := .type "tuple", data := .seq xs }, toks := tk } := fun h1 tk xs kp its => by
      have I2 : Inv X pins σ H1 { s1 with heap := h1, toks := tk } := I1.kept kp
      refine ⟨.ref h1.objs.size, upd H1 h1.objs.size (.tup (rgV i j)), I2.laid (t' := tk) (fun c o e => Heap.get?_push_of_some _ e) (Nat.le_refl _) (show ObjOk X.prog X.w _ _ _ (.tup (rgV i j)) from ⟨sz (by rw [rgV_length]; exact few), xs.toList, vals_rg its, by rw [Array.toArray_toList]; exact IsTup.new _ _⟩), rfl, q _ (I2.hok.fresh (Nat.le_refl _))⟩
    cases sm : Builtin.Range.small i j 1 with
    | true => exact call_tuple_range (n := (j - i).toNat) (I1.ok.hd ok.calm) rg sm (rangeSize_nat i j) (by omega) fin
    | false => exact far_tuple (m := (j - i).toNat) (I1.ok.hd ok.calm) rg sm (rangeSize_nat i j) (by omega) fin
end
end DL
namespace DL
open PySem PySem.Spec PyProof.Rows L2

/-! ### the signs of a text -/
def sgnD (x : Str) : List D := x.cps.toList.map fun c => .str ⟨#[c]⟩
theorem sgnD_len {x : Str} : (sgnD x).length = x.cps.size := by simp [sgnD]
theorem sgnD_get {x : Str} {i : Nat} {d : D} (h : (sgnD x)[i]? = some d) : ∃ c, x.cps[i]? = some c ∧ d = .str ⟨#[c]⟩ ∧ i < x.cps.size := by
  unfold sgnD at h
  rw [List.getElem?_map, Array.getElem?_toList] at h
  cases z : x.cps[i]? with
  | none => rw [z] at h; cases h
  | some c => rw [z] at h; exact ⟨c, rfl, (Option.some.inj h).symm, (Array.getElem?_eq_some_iff.mp z).1⟩
theorem genJ_sgn {K : PySem.W.Frag} {O1 : Own} {H1 : Hp} {Src : Own → Prop} {x : Str} : GenJ K (Its x) O1 H1 Src (sgnD x) where
  go := fun O H i w l s hi => by rw [sgnD_len] at hi; exact hi
  yld := fun O H i v H' w l s hi y => by
    obtain ⟨rfl, c, hc, rfl⟩ := y
    exact ⟨.str ⟨#[c]⟩, by unfold sgnD; rw [List.getElem?_map, Array.getElem?_toList, hc]; rfl, rep_str.mpr rfl, w, Le.refl _ _⟩
  stop := fun O H i w l s hi => by rw [sgnD_len] at hi; exact hi
section
variable {C : CD} {X : Cx} {Γ : En} {O : Own} {Q : D → Own → Prop} {tg iter : Expr} {R : List D → (Own → Prop) → Own → Prop}
theorem wi_str (h : DL.WE C X iter Γ O fun d O1 => ∃ x, d = .str x ∧ R (sgnD x) (fun _ => True) O1) : WI C X tg iter Γ O R := .mk fun ok σ H S k hk =>
  iw_of (pi_str pe_ew) (h ok σ H S _ fun v H1 d O1 ⟨x, e, q⟩ S1 l1 r1 => by
    subst e
    exact ⟨x, rep_str.mp r1, hk _ H1 _ _ O1 q S1 l1 genJ_sgn⟩)
/-- a sign in a text -/
theorem ow_inSgn {c : Nat} {z : Str} (q : Q (.bl (decide (c ∈ z.cps.toList))) O) : OW C X (compareOp .In) (.str ⟨#[c]⟩) (.str z) Γ O Q := ow_of op_inS fun σ H v w S rx ry k hk => by
  rw [rep_str] at rx ry
  subst rx; subst ry
  exact ⟨c, z, rfl, rfl, hk.at q S (rep_bl.mpr rfl)⟩
theorem reps_bls : ∀ {bs : List Bool} {xs : List V} {K : PySem.W.Frag} {N : Addr → Prop} {H : Hp}, Reps K N H (bs.map .bl) xs → xs = bs.map V.bl
  | [], xs, K, N, H, r => reps_nil.mp r
  | b :: bs, xs, K, N, H, r => by
    rw [List.map_cons, reps_cons] at r
    obtain ⟨x, rr, rfl, r1, r2⟩ := r
    rw [rep_bl.mp r1, reps_bls r2]
    rfl
/-- all(xs) of a list of bools -/
theorem bf_all {d : D} {bs : List Bool} (hd : SqLs O d (bs.map .bl)) (q : Q (.bl (bs.all id)) O) : BF C (.builtin "all") [d] Γ O Q := bf_of (fun X ok => by have := cr_all (X := X) ok.calm; rw [ok.K] at this; exact this) fun σ H vs S r0 k hk => by
  obtain ⟨v, rfl, rv⟩ := reps1 r0
  obtain ⟨p, xs, rfl, hx, rx⟩ := hd.ok S.own rv
  rw [reps_bls rx] at hx
  exact ⟨p, bs, rfl, hx, hk.at q S (rep_bl.mpr rfl)⟩
end
/-! ### names -/
def lettersS : Str := "abcdefghijklmnopqrstuvwxyz"
def nmOk (x : Str) : Bool := decide (1 ≤ x.length) && decide (x.length ≤ 8) && (x.cps.toList.map fun c => decide (c ∈ lettersS.cps.toList)).all id
def D.isNm : D → Bool
  | .str x => nmOk x
  | _ => false
/-- short enough for len -/
def D.shortS : D → Prop
  | .str x => x.length ≤ sizeLine
  | _ => True
def TIsName : TF := fun ds O Q _ => ∃ d n, ds = [d] ∧ d.tyN = some n ∧ d.shortS ∧ Q (.bl d.isNm) O
def TNeedName (bn : Addr) : TF := fun ds O Q E => ∃ d n, ds = [d] ∧ d.tyN = some n ∧ d.shortS ∧ (d.isNm = true → Q .non O) ∧ (d.isNm = false → E ⟨bn, [("value", d)]⟩ O)
theorem isS_ex {d : D} (h : d.isS = true) : ∃ x, d = .str x := by
  cases d <;> first | exact ⟨_, rfl⟩ | cases h
theorem isNm_no {d : D} (h : d.isS = false) : d.isNm = false := by
  cases d <;> first | rfl | cases h
/-! ### ties -/
inductive Kd | back | ahead | sofar | whole | last | same
  deriving DecidableEq
structure TA where
  back : Addr
  ahead : Addr
  sofar : Addr
  whole : Addr
  last : Addr
  same : Addr
def TA.c (A : TA) : Kd → Addr
  | .back => A.back
  | .ahead => A.ahead
  | .sofar => A.sofar
  | .whole => A.whole
  | .last => A.last
  | .same => A.same
def tieF (k : Kd) (s : D) (n : D) : List (Str × D) := match k with
  | .back => [("source", s), ("number", n)]
  | .ahead => [("source", s), ("number", n)]
  | _ => [("source", s)]
def tieD (A : TA) (k : Kd) (s : Str) (n : Int) : D := .ins (A.c k) (tieF k (.str s) (.int n))
def rngI (i j : Int) : List Int := (List.range (j - i).toNat).map fun (k : Nat) => i + (k : Int)
theorem rngI_D {i j : Int} : rngD i (j - i).toNat = (rngI i j).map .int := rngD_ints
theorem rngI_len {i j : Int} : (rngI i j).length = (j - i).toNat := by simp [rngI]
def srcI (k : Kd) (n : Int) (ns : List Int) (d : Int) : List Int := match k with
  | .back => [d - n]
  | .ahead => [d + n]
  | .sofar => rngI (fI ns d) (d + 1)
  | .whole => rngI (fI ns (fI ns d - 1)) (fI ns d)
  | .last => [fI ns d - 1]
  | .same => if fI ns (fI ns d - 1) + d - fI ns d < fI ns d then [fI ns (fI ns d - 1) + d - fI ns d] else []
def TSrc (A : TA) (Cy : Addr) (k : Kd) : TF := fun ds O Q _ => ∃ s n ns d, ds = [tieD A k s n, .int d, .ins Cy (cycF ns)] ∧ Good ns ∧ Q (.tup ((srcI k n ns d).map .int)) O
theorem szB {n : Nat} (h : n ≤ 200000) : n ≤ sizeLine := by
  rw [sizeLine_eq]
  omega
theorem toStr_len {n : Int} (h : n.natAbs < 10 ^ 100) : (toString n : Str).length ≤ 50000 := by
  have h1 := PyData.shown_le 108 (by decide) (.int n) (psm_short (k := 100) (by decide) (.int n) h)
  have h2 := psm_weight (k := 100) (.int n) h
  have h3 : (PyData.int n).shown = (toString n : Str) := rfl
  rw [h3] at h1
  simp only [pcnt] at h2
  omega
/-- Tie.__init__ -/
def TTieI (K : PySem.W.Frag) (bn : Addr) : TF := fun ds O Q E => ∃ a Cl v n, ds = [.ref a, v] ∧ v.tyN = some n ∧ v.shortS ∧ OAt O a (.ins Cl []) ∧ Cls K Cl ∧ NoAttr K Cl "source" ∧
  (v.isNm = true → ∀ O', OUp O a (.ins Cl []) (.ins Cl [("source", v)]) O' → Q .non O') ∧ (v.isNm = false → E ⟨bn, [("value", v)]⟩ O)
def TNumbI (K : PySem.W.Frag) : TF := fun ds O Q _ => ∃ a Cl fs v O', ds = [.ref a, v] ∧ OUp O a (.ins Cl fs) (.ins Cl (putD "number" v fs)) O' ∧ fs.length < 1000 ∧ Cls K Cl ∧ NoAttr K Cl "number" ∧ Q .non O'
/-- Back.__init__, Ahead.__init__ -/
def TNumI (Cl bn bd : Addr) (lo : Int) : TF := fun ds O Q E => ∃ a v u n m, ds = [.ref a, v, u] ∧ v.tyN = some n ∧ v.shortS ∧ u.tyN = some m ∧ OAt O a (.ins Cl []) ∧ (v.isNm = false → E ⟨bn, [("value", v)]⟩ O) ∧
  (v.isNm = true → u.inB lo 60 = false → ∀ O', OUp O a (.ins Cl []) (.ins Cl [("source", v)]) O' → E ⟨bd, [("value", u)]⟩ O') ∧
  (v.isNm = true → u.inB lo 60 = true → ∀ O', OUp O a (.ins Cl []) (.ins Cl [("source", v), ("number", u)]) O' → Q .non O')
section
variable {C : CD} {X : Cx} {Γ : En} {O : Own} {Q : D → Own → Prop} {Cl bn bd : Addr} {j : Nat} {x : Str} {p pos : Pos} {e : Expr} {es : List Expr} {lo : Int}
/-- Sofar(s) and its kin in a text, of a name that holds -/
theorem we_mk1 (hI : EntI C.M j Cl (TTieI C.M.K bn)) (hc : Cls C.M.K Cl) (hn : NoAttr C.M.K Cl "source") (hm : C.M.mg x = some (.ref Cl)) (hj : j + 2 ≤ C.k) (gx : x ∈ C.Gs) (he : ∀ env, starEach (e :: es) env = (false, eval e env) :: starEach es env) (hpl : ∀ env, (backTo pos (starEach es env)).any (·.1) = false)
    (h : WA C X (e :: es) Γ O fun ds O1 => ∃ s, ds = [.str s] ∧ nmOk s = true ∧ Q (.ins Cl [("source", .str s)]) O1) : DL.WE C X (.Call (.Name x p) (e :: es) [] pos) Γ O Q := by
  obtain ⟨fi, mk, R⟩ := hI
  refine we_frz (we_cl he hpl (wn_cls hm gx ⟨Cl, rfl, mk.kp, .mk fun ok σ H S k hk => h ok σ H S k fun vs H1 ds O1 ⟨s, e1, g, q⟩ S1 l1 r1 => hk vs H1 ds O1 ?_ S1 l1 r1⟩))
  subst e1
  have hl : s.length ≤ 8 := by
    unfold nmOk at g
    simp only [Bool.and_eq_true, decide_eq_true_eq] at g
    exact g.1.2
  refine cb_mkE mk R hj fun a ha => ⟨a, Cl, .str s, "str", rfl, rfl, sz (by omega), .here, hc, hn, fun _ O' u => ⟨rfl, a, O1, rfl, .inr (.inr ⟨Cl, _, ?_, q⟩)⟩, fun z => (by rw [show D.isNm (.str s) = nmOk s from rfl, g] at z; cases z)⟩
  cases u with
  | here => exact .here
  | there u => exact absurd (List.mem_map.mpr ⟨_, u.at_.1.mem, rfl⟩) ha
/-- Back(s, n), Ahead(s, n) -/
theorem we_mk2 (hI : EntI C.M j Cl (TNumI Cl bn bd lo)) (hm : C.M.mg x = some (.ref Cl)) (hj : j + 2 ≤ C.k) (gx : x ∈ C.Gs) (he : ∀ env, starEach (e :: es) env = (false, eval e env) :: starEach es env) (hpl : ∀ env, (backTo pos (starEach es env)).any (·.1) = false)
    (h : WA C X (e :: es) Γ O fun ds O1 => ∃ s n, ds = [.str s, .int n] ∧ nmOk s = true ∧ lo ≤ n ∧ n ≤ 60 ∧ Q (.ins Cl [("source", .str s), ("number", .int n)]) O1) : DL.WE C X (.Call (.Name x p) (e :: es) [] pos) Γ O Q := by
  obtain ⟨fi, mk, R⟩ := hI
  refine we_frz (we_cl he hpl (wn_cls hm gx ⟨Cl, rfl, mk.kp, .mk fun ok σ H S k hk => h ok σ H S k fun vs H1 ds O1 ⟨s, n, e1, g, n0, n1, q⟩ S1 l1 r1 => hk vs H1 ds O1 ?_ S1 l1 r1⟩))
  subst e1
  have hl : s.length ≤ 8 := by
    unfold nmOk at g
    simp only [Bool.and_eq_true, decide_eq_true_eq] at g
    exact g.1.2
  have hb : D.inB lo 60 (.int n) = true := decide_eq_true ⟨n0, n1⟩
  refine cb_mkE mk R hj fun a ha => ⟨a, .str s, .int n, "str", "int", rfl, rfl, sz (by omega), rfl, .here, fun z => (by rw [show D.isNm (.str s) = nmOk s from rfl, g] at z; cases z), fun _ z => (by rw [hb] at z; cases z), fun _ _ O' u => ⟨rfl, a, O1, rfl, .inr (.inr ⟨Cl, _, ?_, q⟩)⟩⟩
  cases u with
  | here => exact .here
  | there u => exact absurd (List.mem_map.mpr ⟨_, u.at_.1.mem, rfl⟩) ha
end
/-- what a tie's text is -/
def kdS : Kd → Str
  | .back => "back"
  | .ahead => "ahead"
  | .sofar => "sofar"
  | .whole => "whole"
  | .last => "last"
  | .same => "same"
def kdW : Kd → Str
  | .back => "back "
  | .ahead => "ahead "
  | .sofar => "sofar "
  | .whole => "whole "
  | .last => "last "
  | .same => "same "
def Kd.num : Kd → Bool
  | .back => true
  | .ahead => true
  | _ => false
def tieS (k : Kd) (s : Str) (n : Int) : Str := if k.num then Str.empty ++ kdW k ++ toString n ++ " " ++ s else Str.empty ++ kdW k ++ s
def TStrT (A : TA) (k : Kd) : TF := fun ds O Q _ => ∃ s n, ds = [tieD A k s n] ∧ s.length ≤ 1000 ∧ n.natAbs < 10 ^ 100 ∧ Q (.str (tieS k s n)) O
/-- == of a tie and any value -/
def TEqT (A : TA) : TF := fun ds O Q _ => ∃ k s n y, ds = [tieD A k s n, y] ∧ s.length ≤ 1000 ∧ n.natAbs < 10 ^ 100 ∧
  ((∃ k' s' n', y = tieD A k' s' n' ∧ s'.length ≤ 1000 ∧ n'.natAbs < 10 ^ 100 ∧ Q (.bl (decide (V.str (tieS k s n) = V.str (tieS k' s' n')))) O) ∨ ∃ m, y.tyN = some m ∧ Q (.bl false) O)
def kOk (k : Kd) (n : Int) : Prop := 0 ≤ n ∧ n ≤ 60 ∧ (k = .ahead → 1 ≤ n)
def plainD (k : Kd) (s : Str) (n : Int) : D := .tup [.str (kdS k), if k.num then .int n else .non, .str s]
def TTie (A : TA) : TF := fun ds O Q _ => ∃ k s n, ds = [plainD k s n] ∧ kOk k n ∧ nmOk s = true ∧ Q (tieD A k s n) O
def TPlain : TF := fun ds O Q _ => ∃ p b x xs O', ds = [.ref p, x] ∧ OUp O p (.box (Pen b)) (.box (Pen (b + 4))) O' ∧ b < 2 ^ 19 ∧ SqLs O' x (xs.map .str) ∧ (∀ O1, SqLs O1 x (xs.map .str)) ∧ xs ≠ [] ∧ xs.length ≤ 1000 ∧ ∀ k n s, kOk k n → s ∈ xs → Q (plainD k s n) O'
theorem nm_len {s : Str} (g : nmOk s = true) : s.length ≤ 8 := by
  unfold nmOk at g
  simp only [Bool.and_eq_true, decide_eq_true_eq] at g
  exact g.1.2
theorem pcnt_lists : ∀ {xs : List (List Int)}, pcntAll (xs.map fun ns => PyData.tuple (ns.map .int)) ≤ xs.length * 2 + 2 * (xs.map List.length).sum
  | [] => by simp [pcntAll]
  | x :: xs => by
    have := pcnt_lists (xs := xs)
    simp only [List.map_cons, pcntAll, pcnt, pcnt_ints, List.length_cons, List.sum_cons]
    omega
/-- repr of a list of tuples of ints -/
theorem rp_tups {xs : List (List Int)} (h : ∀ ns ∈ xs, ∀ n ∈ ns, n.natAbs < 10 ^ 64) (hl : xs.length * 2 + 2 * (xs.map List.length).sum ≤ 600) : Rp (.lst (xs.map fun ns => .tup (ns.map .int))) := by
  have py : ∀ xs : List (List Int), D.pys (xs.map fun ns => D.tup (ns.map .int)) = xs.map fun ns => PyData.tuple (ns.map .int) := by
    intro xs
    induction xs with
    | nil => rfl
    | cons x xs ih => simp only [List.map_cons, D.pys, D.py, ih, pys_ints]
  have ar : ∀ xs : List (List Int), D.arePy (xs.map fun ns => D.tup (ns.map .int)) = true := by
    intro xs
    induction xs with
    | nil => rfl
    | cons x xs ih => simp only [List.map_cons, D.arePy, D.isPy, ih, arePy_ints, Bool.and_self]
  have ps : ∀ xs : List (List Int), (∀ ns ∈ xs, ∀ n ∈ ns, n.natAbs < 10 ^ 64) → PSmAll 64 (xs.map fun ns => PyData.tuple (ns.map .int)) := by
    intro xs
    induction xs with
    | nil => exact fun _ => True.intro
    | cons x xs ih => exact fun h => ⟨psmAll_ints (h x List.mem_cons_self), ih fun ns hns => h ns (List.mem_cons_of_mem _ hns)⟩
  have dp : ∀ xs : List (List Int), PyData.depthAll (xs.map fun ns => PyData.tuple (ns.map .int)) ≤ 2 := by
    intro xs
    induction xs with
    | nil => simp [PyData.depthAll]
    | cons x xs ih =>
      have := depthAll_ints x
      simp only [List.map_cons, PyData.depthAll, PyData.depth]
      omega
  have e : (D.lst (xs.map fun ns => .tup (ns.map .int))).pd = .list (xs.map fun ns => PyData.tuple (ns.map .int)) := by show PyData.list (D.pys _) = _; rw [py]
  refine rp_of ?_ (ar xs) ?_ ?_
  · rw [e]; exact ps xs h
  · rw [e]
    have := dp xs
    simp only [PyData.depth]
    omega
  · rw [e]
    have := pcnt_lists (xs := xs)
    simp only [pcnt]
    omega
end DL
namespace DL
open PySem PySem.Spec PyProof.Rows L2
theorem OUp.more {O O' : Own} {a : Addr} {o o' : OD} (h : OUp O a o o' O') (o2 : OD) : ∃ O2, OUp O' a o' o2 O2 ∧ OUp O a o o2 O2 := by
  induction h with
  | here => exact ⟨_, .here, .here⟩
  | there _ ih => exact (match ih with | ⟨_, z1, z2⟩ => ⟨_, .there z1, .there z2⟩)
theorem len_app {a b : Str} : (a ++ b).length = a.length + b.length := by
  show (a.cps ++ b.cps).size = _
  rw [Array.size_append]
  rfl
def TSrcA (A : TA) (Cy : Addr) : TF := fun ds O Q _ => ∃ k s n ns d, ds = [tieD A k s n, .int d, .ins Cy (cycF ns)] ∧ Good ns ∧ Q (.tup ((srcI k n ns d).map .int)) O
section
variable {C : CD} {X : Cx} {Γ : En} {O : Own} {Q : D → Own → Prop} {x z : Str} {pos : Pos} {a b e : Expr}
/-- x is a text of the module -/
def GS (mg : Str → Option Value) (x : Str) (z : Str) : Prop := ∃ t, mg x = some (.str z t)
theorem wn_gs (h : GS C.M.mg x z) (g : x ∈ C.Gs) (q : Q (.str z) O) : DL.WE C X (.Name x pos) Γ O Q := by
  obtain ⟨t, e⟩ := h
  exact we_glob g (Gv.str e) q
theorem ow_eqS {x y : Str} {t : Bool} (h : decide (x = y) = t) (q : Q (.bl t) O) : OW C X (compareOp .Eq) (.str x) (.str y) Γ O Q := ow_eq .str .str rfl (by
  rw [show decide (V.str x = V.str y) = t by rw [← h]; by_cases e : x = y <;> simp [e]]
  exact q)
theorem ow_neS {x y : Str} {t : Bool} (h : decide (x = y) = t) (q : Q (.bl (!t)) O) : OW C X (compareOp .NotEq) (.str x) (.str y) Γ O Q := ow_ne .str .str rfl (by
  rw [show decide (V.str x = V.str y) = t by rw [← h]; by_cases e : x = y <;> simp [e]]
  exact q)
theorem wt_chain {c : Expr} {QT : Bool → Own → Prop} {op op' : CmpOp} (hm : lastMarks [op, op'] [b, c] = false)
    (h : DL.WE C X a Γ O fun x O1 => DL.WE C X b Γ O1 fun y O2 => OW C X (compareOp op) x y Γ O2 fun z O3 => ∃ t, z = .bl t ∧ (t = true → DL.WE C X c Γ O3 fun u O4 => OW C X (compareOp op') y u Γ O4 fun z2 O5 => ∃ t2, z2 = .bl t2 ∧ QT t2 O5) ∧ (t = false → QT false O3)) :
    WT C X (.Compare a [op, op'] [b, c] pos) Γ O QT := .mk fun ok σ H S k hk pins s I => by
  have step : ∀ v H1 d O1, (DL.WE C X b Γ O1 fun y O2 => OW C X (compareOp op) d y Γ O2 fun z O3 => ∃ t, z = .bl t ∧ (t = true → DL.WE C X c Γ O3 fun u O4 => OW C X (compareOp op') y u Γ O4 fun z2 O5 => ∃ t2, z2 = .bl t2 ∧ QT t2 O5) ∧ (t = false → QT false O3)) → Sat C Γ O1 σ H1 → Le O H O1 H1 → Rep C.M.K O1.has H1 d v →
      EW X b σ H1 fun w H2 => ∀ (pins : List (Addr × Obj)) (s : Shared) (v' w' : Value), Inv X pins σ H2 s → RelV v v' → RelV w w' → wpAny (model X.prog X.w) X.A (compareOp op v' w') (EP X pins σ fun z H3 => ∃ t, z = .bl t ∧ (t = true → EW X c σ H3 fun u H4 => ∀ (pins : List (Addr × Obj)) (s : Shared) (w' u' : Value), Inv X pins σ H4 s → RelV w w' → RelV u u' →
        wpAny (model X.prog X.w) X.A (compareOp op' w' u') (EP X pins σ fun z2 H5 => ∃ t2, z2 = .bl t2 ∧ k t2 H5) X.xe s) ∧ (t = false → k false H3)) X.xe s := fun v H1 d O1 q1 S1 l1 r1 => by
    refine q1 ok σ H1 S1 _ fun w H2 e O2 q2 S2 l2 r2 => ?_
    refine q2 ok σ H2 S2 v w (Rep.le l2 r1) r2 _ fun z H3 g O3 q3 S3 l3 r3 => ?_
    obtain ⟨t, rfl, ht, hf⟩ := q3
    rw [rep_bl] at r3
    refine ⟨t, r3, fun e => ?_, fun e => hk false H3 O3 (hf e) S3 ((l1.trans l2).trans l3)⟩
    refine ht e ok σ H3 S3 _ fun u H4 du O4 q4 S4 l4 r4 => ?_
    exact q4 ok σ H4 S4 w u (Rep.le l4 (Rep.le l3 r2)) r4 _ fun z2 H5 g2 O5 q5 S5 l5 r5 => by
      obtain ⟨t2, rfl, q⟩ := q5
      exact ⟨t2, rep_bl.mp r5, hk t2 H5 O5 q S5 ((((l1.trans l2).trans l3).trans l4).trans l5)⟩
  refine isTrue_chain (thn (h ok σ H S _ step pins s I) fun v s1 ⟨x, H1, I1, r1, q1⟩ => test_link (thn (q1 pins s1 I1) fun u s2 ⟨y, H2, I2, r2, q2⟩ => thn (q2 pins s2 v u I2 r1 r2) fun d s3 ⟨z, H3, I3, r3, t, e, q3, q3'⟩ => ?_)) hm
  subst e
  cases r3
  refine wpAny_truthy_bool ?_
  cases t with
  | false => exact ite_ff ⟨H3, I3, q3' rfl⟩
  | true =>
    refine ite_tt (test_last (thn (q3 rfl pins s3 I3) fun w' s4 ⟨z', H4, I4, r4, q4⟩ => thn (q4 pins s4 u w' I4 r2 r4) fun d' s5 ⟨z2, H5, I5, r5, t2, e2, q5⟩ => ?_))
    subst e2
    cases r5
    exact wpAny_truthy_bool ⟨H5, I5, q5⟩
theorem ow_neDT {x y : D} {t : Bool} (hx : x.shp = true) (hy : y.shp = true) (h : D.eq x y = t) (q : Q (.bl (!t)) O) : OW C X (compareOp .NotEq) x y Γ O Q := ow_neD hx hy (by rw [h]; exact q)
theorem ow_eqDT {x y : D} {t : Bool} (hx : x.shp = true) (hy : y.shp = true) (h : D.eq x y = t) (q : Q (.bl t) O) : OW C X (compareOp .Eq) x y Γ O Q := ow_eqD hx hy (by rw [h]; exact q)
theorem ow_inT {x b : D} {ds : List D} {t : Bool} (hx : x.fl = true) (hs : Sq O b ds) (hf : ds.all D.fl = true) (h : inV x.sv (ds.map D.sv) = t) (q : Q (.bl t) O) : OW C X (compareOp .In) x b Γ O Q := ow_in hx hs hf (by rw [h]; exact q)
end
theorem srcI_bnd {k : Kd} {n : Int} {ns : List Int} {d : Int} (g : Good ns) (h : kOk k n) (hd : d.natAbs ≤ 10 ^ 61) : (srcI k n ns d).length ≤ 61 ∧ ∀ v ∈ srcI k n ns d, v.natAbs < 10 ^ 64 := by
  obtain ⟨h0, h1, _⟩ := h
  have b1 := fI_le g d
  have b3 := (day_bnd g d).1
  have b4 := fI_le g (fI ns d - 1)
  have b5 := (day_bnd g (fI ns d - 1)).1
  have rg : ∀ {i j : Int}, i.natAbs ≤ 10 ^ 62 → j - i ≤ 61 → (rngI i j).length ≤ 61 ∧ ∀ v ∈ rngI i j, v.natAbs < 10 ^ 64 := fun {i j} hi hj => by
    refine ⟨by rw [rngI_len]; omega, fun v hv => ?_⟩
    unfold rngI at hv
    obtain ⟨m, hm, rfl⟩ := List.mem_map.mp hv
    have := List.mem_range.mp hm
    omega
  cases k with
  | back => exact ⟨by simp [srcI], fun v hv => by simp [srcI] at hv; omega⟩
  | ahead => exact ⟨by simp [srcI], fun v hv => by simp [srcI] at hv; omega⟩
  | sofar => exact rg (by omega) (by omega)
  | whole => exact rg (by omega) (by omega)
  | last => exact ⟨by simp [srcI], fun v hv => by simp [srcI] at hv; omega⟩
  | same =>
    unfold srcI
    dsimp only
    split
    · exact ⟨by simp, fun v hv => by simp at hv; omega⟩
    · exact ⟨by simp, fun v hv => by simp at hv⟩
def TDaysT : TF := fun ds O Q _ => ∃ k s n ns d, ds = [plainD k s n, .int d, .lst (ns.map .int)] ∧ Good ns ∧ Q (.lst ((srcI k n ns d).map .int)) O
end DL
namespace DL
open PySem PySem.Spec PyProof.Rows L2

/-! ### blocks and their neighbours -/
theorem blk_same {ns : List Int} (g : Good ns) {x d : Int} (h1 : fI ns d ≤ x) (h2 : x ≤ lI ns d) : fI ns x = fI ns d ∧ lI ns x = lI ns d := by
  obtain ⟨e1, e2⟩ := InB.uniq g.2.2.1 (bI_in g x) (⟨(bI_in g d).lt, h1, by unfold lI at h2; omega⟩ : InB ns x (d / ns.sum) (bI ns d))
  unfold fI lI
  rw [e1, e2]
  exact ⟨rfl, rfl⟩
theorem l_of_f {ns : List Int} (g : Good ns) (d : Int) : lI ns (fI ns d - 1) = fI ns d - 1 := by
  have a1 := le_lI g (fI ns d - 1)
  have a2 := fI_le g (fI ns d - 1)
  have a3 := fI_le g d
  have a4 := le_lI g d
  rcases Int.lt_or_le (lI ns (fI ns d - 1)) (fI ns d) with z | z
  · omega
  · obtain ⟨e1, _⟩ := blk_same g (x := fI ns d) (d := fI ns d - 1) (by omega) z
    obtain ⟨e2, _⟩ := blk_same g (x := fI ns d) (d := d) (by omega) (by omega)
    omega
theorem f_of_l {ns : List Int} (g : Good ns) (d : Int) : fI ns (lI ns d + 1) = lI ns d + 1 := by
  have a1 := le_lI g (lI ns d + 1)
  have a2 := fI_le g (lI ns d + 1)
  have a3 := fI_le g d
  have a4 := le_lI g d
  rcases Int.lt_or_le (lI ns d) (fI ns (lI ns d + 1)) with z | z
  · omega
  · obtain ⟨_, e1⟩ := blk_same g (x := lI ns d) (d := lI ns d + 1) z (by omega)
    obtain ⟨_, e2⟩ := blk_same g (x := lI ns d) (d := d) (by omega) (by omega)
    omega
theorem ff {ns : List Int} (g : Good ns) (d : Int) : fI ns (fI ns d) = fI ns d ∧ lI ns (fI ns d) = lI ns d := blk_same g (by have := fI_le g d; omega) (by have := fI_le g d; have := le_lI g d; omega)
theorem ll {ns : List Int} (g : Good ns) (d : Int) : fI ns (lI ns d) = fI ns d ∧ lI ns (lI ns d) = lI ns d := blk_same g (by have := fI_le g d; have := le_lI g d; omega) (by have := le_lI g d; omega)
theorem mem_rng {i j v : Int} : v ∈ rngI i j ↔ i ≤ v ∧ v < j := by
  unfold rngI
  rw [List.mem_map]
  constructor
  · rintro ⟨m, hm, rfl⟩
    have := List.mem_range.mp hm
    omega
  · intro ⟨h1, h2⟩
    exact ⟨(v - i).toNat, List.mem_range.mpr (by omega), by omega⟩
/-! ### the users of a tie -/
def usrI (k : Kd) (n : Int) (ns : List Int) (d : Int) : List Int := match k with
  | .back => [d + n]
  | .ahead => [d - n]
  | .sofar => rngI d (lI ns d + 1)
  | .whole => rngI (lI ns d + 1) (lI ns (lI ns d + 1) + 1)
  | .last => if d = lI ns d then rngI (d + 1) (lI ns (d + 1) + 1) else []
  | .same => if lI ns d + 1 + d - fI ns d ≤ lI ns (lI ns d + 1) then [lI ns d + 1 + d - fI ns d] else []
def TUsr (A : TA) (Cy : Addr) (k : Kd) : TF := fun ds O Q _ => ∃ s n ns d, ds = [tieD A k s n, .int d, .ins Cy (cycF ns)] ∧ Good ns ∧ Q (.tup ((usrI k n ns d).map .int)) O
theorem usr_src {ns : List Int} (g : Good ns) (k : Kd) (n d u : Int) (h : u ∈ usrI k n ns d) : d ∈ srcI k n ns u := by
  have a3 := fI_le g d
  have a4 := le_lI g d
  have b1 := f_of_l g d
  have b2 := fI_le g (lI ns d + 1)
  have b3 := le_lI g (lI ns d + 1)
  have b4 := ll g d
  cases k with
  | back => simp only [usrI, List.mem_singleton] at h; subst h; simp [srcI]
  | ahead => simp only [usrI, List.mem_singleton] at h; subst h; simp [srcI]
  | sofar =>
    simp only [usrI, mem_rng] at h
    simp only [srcI, mem_rng]
    obtain ⟨e1, _⟩ := blk_same g (x := u) (d := d) (by omega) (by omega)
    omega
  | whole =>
    simp only [usrI, mem_rng] at h
    simp only [srcI, mem_rng]
    obtain ⟨e1, _⟩ := blk_same g (x := u) (d := lI ns d + 1) (by omega) (by omega)
    rw [e1, b1, show lI ns d + 1 - 1 = lI ns d by omega]
    omega
  | last =>
    unfold usrI at h
    dsimp only at h
    split at h
    · rename_i e
      rw [mem_rng] at h
      rw [← e] at b1
      obtain ⟨e1, _⟩ := blk_same g (x := u) (d := d + 1) (by omega) (by omega)
      simp only [srcI, List.mem_singleton]
      omega
    · cases h
  | same =>
    unfold usrI at h
    dsimp only at h
    split at h
    · rename_i e
      rw [List.mem_singleton] at h
      obtain ⟨e1, _⟩ := blk_same g (x := u) (d := lI ns d + 1) (by omega) (by omega)
      unfold srcI
      dsimp only
      rw [e1, b1, show lI ns d + 1 - 1 = lI ns d by omega, b4.1, if_pos (by omega), List.mem_singleton]
      omega
    · cases h
theorem src_usr {ns : List Int} (g : Good ns) (k : Kd) (n d s : Int) (h : s ∈ srcI k n ns d) : d ∈ usrI k n ns s := by
  have a3 := fI_le g d
  have a4 := le_lI g d
  have b1 := l_of_f g d
  have b2 := fI_le g (fI ns d - 1)
  have b4 := ff g d
  cases k with
  | back => simp only [srcI, List.mem_singleton] at h; subst h; simp [usrI]
  | ahead => simp only [srcI, List.mem_singleton] at h; subst h; simp [usrI]
  | sofar =>
    simp only [srcI, mem_rng] at h
    simp only [usrI, mem_rng]
    obtain ⟨_, e1⟩ := blk_same g (x := s) (d := d) (by omega) (by omega)
    omega
  | whole =>
    simp only [srcI, mem_rng] at h
    simp only [usrI, mem_rng]
    obtain ⟨_, e1⟩ := blk_same g (x := s) (d := fI ns d - 1) (by omega) (by omega)
    rw [e1, b1, show fI ns d - 1 + 1 = fI ns d by omega]
    omega
  | last =>
    simp only [srcI, List.mem_singleton] at h
    subst h
    unfold usrI
    dsimp only
    rw [if_pos b1.symm, mem_rng, show fI ns d - 1 + 1 = fI ns d by omega]
    omega
  | same =>
    unfold srcI at h
    dsimp only at h
    split at h
    · rename_i e
      rw [List.mem_singleton] at h
      obtain ⟨e1, e2⟩ := blk_same g (x := s) (d := fI ns d - 1) (by omega) (by omega)
      unfold usrI
      dsimp only
      rw [e1, e2, b1, show fI ns d - 1 + 1 = fI ns d by omega, if_pos (by omega), List.mem_singleton]
      omega
    · cases h
theorem usrI_bnd {k : Kd} {n : Int} {ns : List Int} {d : Int} (g : Good ns) (h : kOk k n) : (usrI k n ns d).length ≤ 61 := by
  have b1 := le_lI g d
  have b3 := (day_bnd g d).2
  have c1 := le_lI g (lI ns d + 1)
  have c3 := (day_bnd g (lI ns d + 1)).2
  have c4 := nI_bnd g (lI ns d + 1)
  have c5 := nI_eq g (lI ns d + 1)
  have c6 := f_of_l g d
  cases k with
  | back => simp [usrI]
  | ahead => simp [usrI]
  | sofar => unfold usrI; dsimp only; rw [rngI_len]; omega
  | whole => unfold usrI; dsimp only; rw [rngI_len]; omega
  | last =>
    unfold usrI
    dsimp only
    split
    · rename_i e
      have c7 := (day_bnd g (d + 1)).2
      have c8 := le_lI g (d + 1)
      have c9 := nI_bnd g (d + 1)
      have c10 := nI_eq g (d + 1)
      rw [← e] at c6
      rw [rngI_len]
      omega
    · simp
  | same =>
    unfold usrI
    dsimp only
    split <;> simp
/-- each is less than the next -/
def Asc (xs : List Int) : Prop := ∀ i a b, xs[i]? = some a → xs[i + 1]? = some b → a < b
theorem asc_rng {i j : Int} : Asc (rngI i j) := fun m a b ha hb => by
  unfold rngI at ha hb
  rw [List.getElem?_map] at ha hb
  cases za : (List.range (j - i).toNat)[m]? with
  | none => rw [za] at ha; cases ha
  | some x =>
    cases zb : (List.range (j - i).toNat)[m + 1]? with
    | none => rw [zb] at hb; cases hb
    | some y =>
      rw [za] at ha
      rw [zb] at hb
      have e1 := (List.getElem?_eq_some_iff.mp za).2
      have e2 := (List.getElem?_eq_some_iff.mp zb).2
      rw [List.getElem_range] at e1 e2
      subst e1
      subst e2
      rw [← Option.some.inj ha, ← Option.some.inj hb]
      show i + (m : Int) < i + ((m + 1 : Nat) : Int)
      omega
theorem asc_one {a : Int} : Asc [a] := fun i x y h1 h2 => by simp at h2
theorem asc_nil : Asc [] := fun i x y h1 h2 => by simp at h1
theorem asc_src {k : Kd} {n : Int} {ns : List Int} {d : Int} : Asc (srcI k n ns d) := by
  cases k with
  | back => exact asc_one
  | ahead => exact asc_one
  | sofar => exact asc_rng
  | whole => exact asc_rng
  | last => exact asc_one
  | same => unfold srcI; dsimp only; split; exact asc_one; exact asc_nil
theorem asc_usr {k : Kd} {n : Int} {ns : List Int} {d : Int} : Asc (usrI k n ns d) := by
  cases k with
  | back => exact asc_one
  | ahead => exact asc_one
  | sofar => exact asc_rng
  | whole => exact asc_rng
  | last => unfold usrI; dsimp only; split; exact asc_rng; exact asc_nil
  | same => unfold usrI; dsimp only; split; exact asc_one; exact asc_nil
/-! ### moved by whole turns -/
theorem f_far {ns : List Int} (g : Good ns) (d t : Int) : fI ns (d + t * ns.sum) = fI ns d + t * ns.sum ∧ lI ns (d + t * ns.sum) = lI ns d + t * ns.sum := by
  have hs := sum_pos g
  have b := bI_in g d
  have e1 : (d / ns.sum + t) * ns.sum = d / ns.sum * ns.sum + t * ns.sum := Int.add_mul _ _ _
  obtain ⟨e2, e3⟩ := InB.uniq g.2.2.1 (bI_in g (d + t * ns.sum)) (⟨b.lt, by have := b.lo; omega, by have := b.hi; omega⟩ : InB ns (d + t * ns.sum) (d / ns.sum + t) (bI ns d))
  unfold fI lI
  rw [e2, e3, e1]
  omega
theorem rng_far {i j m : Int} : rngI (i + m) (j + m) = (rngI i j).map (· + m) := by
  unfold rngI
  rw [show j + m - (i + m) = j - i by omega, List.map_map]
  refine List.map_congr_left fun x _ => ?_
  show i + m + (x : Int) = i + (x : Int) + m
  omega
theorem src_far {ns : List Int} (g : Good ns) (k : Kd) (n d t : Int) : srcI k n ns (d + t * ns.sum) = (srcI k n ns d).map (· + t * ns.sum) := by
  obtain ⟨e1, e2⟩ := f_far g d t
  obtain ⟨e3, e4⟩ := f_far g (fI ns d - 1) t
  have e5 : fI ns d - 1 + t * ns.sum = fI ns d + t * ns.sum - 1 := by omega
  rw [e5] at e3 e4
  cases k with
  | back => simp only [srcI, List.map_cons, List.map_nil]; congr 1; omega
  | ahead => simp only [srcI, List.map_cons, List.map_nil]; congr 1; omega
  | sofar => unfold srcI; dsimp only; rw [e1, ← rng_far]; congr 1; omega
  | whole => unfold srcI; dsimp only; rw [e1, e3, ← rng_far]
  | last => simp only [srcI, List.map_cons, List.map_nil, e1]; congr 1; omega
  | same =>
    unfold srcI
    dsimp only
    rw [e1, e3]
    by_cases h : fI ns (fI ns d - 1) + d - fI ns d < fI ns d
    · rw [if_pos h, if_pos (by omega), List.map_cons, List.map_nil]
      congr 1
      omega
    · rw [if_neg h, if_neg (by omega), List.map_nil]
theorem usr_far {ns : List Int} (g : Good ns) (k : Kd) (n d t : Int) : usrI k n ns (d + t * ns.sum) = (usrI k n ns d).map (· + t * ns.sum) := by
  obtain ⟨e1, e2⟩ := f_far g d t
  obtain ⟨e3, e4⟩ := f_far g (lI ns d + 1) t
  obtain ⟨e6, e7⟩ := f_far g (d + 1) t
  have e5 : lI ns d + 1 + t * ns.sum = lI ns d + t * ns.sum + 1 := by omega
  have e8 : d + 1 + t * ns.sum = d + t * ns.sum + 1 := by omega
  rw [e5] at e3 e4
  rw [e8] at e6 e7
  cases k with
  | back => simp only [usrI, List.map_cons, List.map_nil]; congr 1; omega
  | ahead => simp only [usrI, List.map_cons, List.map_nil]; congr 1; omega
  | sofar => unfold usrI; dsimp only; rw [e2, ← rng_far]; congr 1; omega
  | whole => unfold usrI; dsimp only; rw [e2, e4, ← rng_far]; congr 1 <;> omega
  | last =>
    unfold usrI
    dsimp only
    rw [e2, e7]
    by_cases h : d = lI ns d
    · rw [if_pos h, if_pos (by omega), ← rng_far]; congr 1 <;> omega
    · rw [if_neg h, if_neg (by omega), List.map_nil]
  | same =>
    unfold usrI
    dsimp only
    rw [e1, e2, e4]
    by_cases h : lI ns d + 1 + d - fI ns d ≤ lI ns (lI ns d + 1)
    · rw [if_pos h, if_pos (by omega), List.map_cons, List.map_nil]
      congr 1
      omega
    · rw [if_neg h, if_neg (by omega), List.map_nil]
end DL
namespace DL
open PySem PySem.Spec PyProof.Rows L2

/-! ### an instance called with keywords -/
theorem callO_kw {M : Model} {A : Around} {E : Value → Shared → Prop} {s : Shared} {a : Addr} {pos : Pos} {env : Env} {Q : Value → Shared → Prop} {kws : List Keyword} (all : (backToKw pos (keywordEach kws env)).all (·.1.isSome) = true) (pl : ((backTo pos (starEach [] env)).any (·.1) || (backToKw pos (keywordEach kws env)).any (·.1.isNone)) = false)
    (h : wpAny M A (evalAll ((backToKw pos (keywordEach kws env)).map (·.2))) (fun ks s1 => (∃ C ox od, PySem.W.InstAt s1.heap a ox C od ∧ ox.data = .plain) ∧ wpAny M A (call (.ref a) ([] ++ []) (((backToKw pos (keywordEach kws env)).filterMap (·.1)).zip ks)) Q E s1) E s) :
    wpAny M A (callWith pos (.ref a) [] (backTo pos (starEach [] env)) (backToKw pos (keywordEach kws env))) Q E s := by
  have g := evalArgs_kw2_nil (f := .ref a) (Q := fun z s1 => (∃ C ox od, PySem.W.InstAt s1.heap a ox C od ∧ ox.data = .plain) ∧ wpAny M A (call (.ref a) ([] ++ z.pos) z.kw) Q E s1) all h
  unfold callWith; refine wpAny_bind (wpAny_holding (wpAny_mono g (fun z s1 z1 => wpAny_bind (wpAny_standAt ?_)) fun _ _ y => y))
  obtain ⟨⟨C, ox, od, J, hd⟩, z2⟩ := z1
  have L := PySem.W.kco_keeper (M := M) J hd
  simp only [pl]; refine wpAny_bind (L.here ?_)
  exact wpAny_bind (wpAny_mono (wpAny_operateT z2) (fun r s2 hr => wpAny_bind (wpAny_holding (wpAny_point (wpAny_pure hr)))) fun _ _ y => y)
def EntOK (M : Md) (j : Nat) (Cl : Addr) (ks : List Str) (T : TF) : Prop := ∃ f, StX.CallO M.K Cl f ∧ DfK M j f ks T
section
variable {C : CD} {X : Cx} {Γ : En} {O : Own} {Q : D → Own → Prop} {pos p : Pos} {x : Str} {kws : List Keyword} {ks : List Str}
/-- x(k = v, ..), x an instance -/
theorem we_callOK (hall : ∀ env, (backToKw pos (keywordEach kws env)).all (·.1.isSome) = true) (hks : ∀ env, (backToKw pos (keywordEach kws env)).filterMap (·.1) = ks)
    (hpl : ∀ env, ((backTo pos (starEach [] env)).any (·.1) || (backToKw pos (keywordEach kws env)).any (·.1.isNone)) = false)
    (h : DL.WE C X (.Name x p) Γ O fun d O1 => ∃ Cl fs j T, Ins O1 d Cl fs ∧ EntOK C.M j Cl ks T ∧ j + 1 ≤ C.k ∧ WK C X kws Γ O1 fun ds O2 => Ins O2 d Cl fs ∧ ds.length = ks.length ∧ T (d :: ds) O2 Q fun x O' => C.ED x Γ O') : DL.WE C X (.Call (.Name x p) [] kws pos) Γ O Q := .mk fun ok σ H S k hk pins s I => by
  refine wpAny_Call_Name_kw (thn (h ok σ H S (fun v H1 => ∃ a g Cl, v = .ref a ∧ StX.CallO X.K Cl g ∧ KW X kws σ H1 fun vs H2 => vs.length = ks.length ∧ (∃ dx fs, H2 a = some (.ins Cl dx fs)) ∧ ∀ (pins : List (Addr × Obj)) (s : Shared) (us : List Value), Inv X pins σ H2 s → Vals vs us → codeAny (model X.prog X.w) X.A (.call (.ref g) ⟨[.ref a], ks.zip us⟩) (RF X pins σ k) s) (fun v H1 d O1 q1 S1 l1 r1 => ?_) pins s I) fun u s1 ⟨v, H1, I1, r1, a, g, Cl, ev, co, q⟩ => ?_)
  · obtain ⟨Cl, fs, j, T, i, ⟨f, co, F⟩, hj, q⟩ := q1
    obtain ⟨pa, dx, gs, rfl, ea, rf⟩ := i.ok S1.own r1
    refine ⟨pa, f, Cl, rfl, by rw [ok.K]; exact co, ?_⟩
    refine q ok σ H1 S1 _ fun vs H2 ds O2 ⟨i2, hl, q2⟩ S2 l2 r2 => ?_
    have r1' := Rep.le l2 r1
    obtain ⟨pa', dx', gs', e', ea', _⟩ := i2.ok S2.own r1'
    cases e'
    exact ⟨by rw [reps_len r2]; exact hl, ⟨dx', gs', ea'⟩, fun pins s us I rv => (cb_dfk (ds := [d]) (es := ds) F hj q2) X ok σ H2 S2 (.ref pa :: vs) (reps_cons.mpr ⟨_, _, rfl, r1', r2⟩) k (hk.le (l1.trans l2)) X.A pins s [.ref pa] us (.inl rfl) I (.cons rfl rv) (by rw [← rv.length, reps_len r2]; exact hl)⟩
  · subst ev
    obtain rfl : u = Value.ref a := r1
    refine callO_kw (hall _) (hpl _) (thn (q pos pins s1 I1) fun us s2 ⟨vs, H2, I2, r, hl, ⟨dx, gs, ea⟩, q2⟩ => ?_)
    obtain ⟨mA, Ob, _⟩ := ins_get I2.hok ea
    obtain ⟨od, J, _⟩ := Ob.look
    refine ⟨⟨Cl, _, od, J, rfl⟩, ?_⟩
    rw [hks]
    refine wpAny_call (PySem.W.kco_code I2.kIn J rfl co.at_ co.fn co.fi (codeAny_mono (q2 pins s2 us I2 r) fun rs s' qq => ?_))
    match rs, qq with
    | .error e, qq => exact qq
    | .ok (.ret u), qq => exact qq
end
/-- two keywords, the other way round -/
theorem FnG.dfkS {M : Md} {j : Nat} {f : Addr} {fd : FuncData} {ps : List Str} {k1 k2 : Str} {T : TF} (F : FnG M j f fd ps (spD M.K T)) (kp : PySem.W.keepIn M.K (.ref f) = true)
    (hb : ∀ (s : Shared) (u w1 w2 : Value), BindsTo s fd ⟨[u], [(k1, w1), (k2, w2)]⟩ (ps.zip [u, w2, w1])) : DfK M j f [k1, k2] fun ds O Q E => ∃ x y z, ds = [x, y, z] ∧ T [x, z, y] O Q E := by
  refine ⟨fun A outer s H us ws vs Q E hr hg e0 rv hl h => ?_, kp⟩
  obtain ⟨ds, O, QD, ED, w, r, ⟨x, y, z, rfl, t⟩, hQ, hE⟩ := h
  rw [reps_cons] at r
  obtain ⟨v1, r1, rfl, a1, r⟩ := r
  rw [reps_cons] at r
  obtain ⟨v2, r2, rfl, a2, r⟩ := r
  obtain ⟨v3, rfl, a3⟩ := reps1 r
  match us, ws, hl, rv with
  | [u], [w1, w2], _, .cons q1 (.cons q2 (.cons q3 .nil)) =>
    exact F.run A outer s H ⟨[u], [(k1, w1), (k2, w2)]⟩ [u, w2, w1] [v1, v3, v2] Q E hr hg e0 (hb s u w1 w2) (.cons q1 (.cons q3 (.cons q2 .nil))) ⟨_, O, QD, ED, w, reps_cons.mpr ⟨_, _, rfl, a1, reps_cons.mpr ⟨_, _, rfl, a3, reps_cons.mpr ⟨_, _, rfl, a2, reps_nil.mpr rfl⟩⟩⟩, t, hQ, hE⟩
  | [], [_, _], _, rv => have := rv.length; simp at this
  | _ :: _ :: _, [_, _], _, rv => have := rv.length; simp at this
end DL
namespace DL
open PySem PySem.Spec PyProof.Rows L2

/-! ### texts joined and split -/
theorem reps_strs : ∀ {ys : List Str} {xs : List V} {K : PySem.W.Frag} {N : Addr → Prop} {H : Hp}, Reps K N H (ys.map .str) xs → xs = ys.map V.str
  | [], xs, K, N, H, r => reps_nil.mp r
  | y :: ys, xs, K, N, H, r => by
    rw [List.map_cons, reps_cons] at r
    obtain ⟨x, rr, rfl, r1, r2⟩ := r
    rw [rep_str.mp r1, reps_strs r2]
    rfl
theorem reps_of_strs {ys : List Str} {K : PySem.W.Frag} {N : Addr → Prop} {H : Hp} : Reps K N H (ys.map .str) (ys.map V.str) := by
  induction ys with
  | nil => exact reps_nil.mpr rfl
  | cons y ys ih => exact reps_cons.mpr ⟨_, _, rfl, rep_str.mpr rfl, ih⟩
section
variable {C : CD} {X : Cx} {Γ : En} {O : Own} {Q : D → Own → Prop} {o e : Expr} {apos cpos : Pos}
theorem bf_join {a : Str} {d : D} {ys : List Str} (hd : Sq O d (ys.map .str)) (hz : (ys.map (·.length)).sum + ys.length * a.length ≤ 16777216) (q : Q (.str (Txt.join a ys)) O) : BF C (.builtin "str.join") [.str a, d] Γ O Q :=
  bf_mt (r := fun x xs H Q => ∃ a p, ∃ ys : List Str, x = .str a ∧ xs = [.ref p] ∧ (SqL C.M.K H p (ys.map V.str) ∨ SqT C.M.K H p (ys.map V.str)) ∧ (ys.map (·.length)).sum + ys.length * a.length ≤ 16777216 ∧ Q (.str (Txt.join a ys)) H) (fun X ok => by have := mt_join (X := X); rw [ok.K] at this; exact this) fun σ H v vs S rx rv k hk => by
    obtain ⟨y, rfl, ry⟩ := reps1 rv
    rw [rep_str] at rx
    subst rx
    obtain ⟨p, xs, rfl, hp, rxs⟩ := hd.ok S.own ry
    rw [reps_strs rxs] at hp
    exact ⟨a, p, ys, rfl, rfl, hp, hz, hk.at q S (rep_str.mpr rfl)⟩
/-- sep.join(xs) -/
theorem we_join (hbase : ∀ env, attributeBase o "join" env (eval o env) = eval o env)
    (hfew : ∀ env, ((backTo cpos (starEach [e] env)).all (fun x => !x.1) && (backToKw cpos (keywordEach [] env)).all (fun x => x.1.isSome)
      && decide (([e] : List Expr).length + ([] : List Keyword).length + (if ([] : List Keyword).isEmpty then 0 else 1) < 30)) = true)
    (hline : (apos.endLine == cpos.line) = true) (hs : ∀ env, starEach [e] env = [(false, eval e env)])
    (h : DL.WE C X o Γ O fun x O1 => ∃ a, x = .str a ∧ DL.WE C X e Γ O1 fun d O2 => ∃ ys, Sq O2 d (ys.map .str) ∧ (ys.map (·.length)).sum + ys.length * a.length ≤ 16777216 ∧ Q (.str (Txt.join a ys)) O2) : DL.WE C X (.Call (.Attribute o "join" apos) [e] [] cpos) Γ O Q :=
  we_bm F.plainAttrs_str F.slot_str_join F.type_str_join hbase hfew hline (fun env => by rw [hs]; rfl) (fun _ => rfl) (we_imp h fun x O1 ⟨a, e1, q⟩ => ⟨by subst e1; exact .str, wa_cons (fun env => by rw [hs]; rfl) (we_imp q fun d O2 ⟨ys, sq, hz, q⟩ => wa_nil (by subst e1; exact bf_join sq hz q))⟩)
/-- x.split(sep), a list at rest -/
theorem bf_split {a b : Str} (hb : (b.length == 0) = false) (hz : a.length + 2 ≤ sizeLine) (q : Q (.lst ((Txt.split a b).map .str)) O) : BF C (.builtin "str.split") [.str a, .str b] Γ O Q :=
  bf_mt (r := fun x xs H Q => ∃ a b, x = .str a ∧ xs = [.str b] ∧ (b.length == 0) = false ∧ a.length + 2 ≤ sizeLine ∧ rNewStrs (Txt.split a b) H Q) (fun X ok => mt_split (X := X)) fun σ H v vs S rx rv k hk => by
    obtain ⟨y, rfl, ry⟩ := reps1 rv
    rw [rep_str] at rx ry
    subst rx; subst ry
    refine ⟨a, b, rfl, rfl, hb, hz, fun p hp => hk.new S hp q ?_⟩
    simp only [Rep]
    exact ⟨p, _, rfl, S.own.nothas hp, upd_same, reps_of_strs⟩
end
end DL
namespace DL
open PySem PySem.Spec PyProof.Rows L2

/-! ### classes called with keywords -/
def EntIK (M : Md) (j : Nat) (Cl : Addr) (ks : List Str) (T : TF) : Prop := ∃ f, Mk M.K Cl f ∧ Runs M j (.ref f) ks T
def TSwp (T : TF) : TF := fun ds O Q E => ∃ x y z, ds = [x, y, z] ∧ T [x, z, y] O Q E
section
variable {C : CD} {X : Cx} {Γ : En} {O : Own} {Q : D → Own → Prop} {Cl bn bd : Addr} {j : Nat} {x : Str} {p pos : Pos} {kws : List Keyword} {lo : Int}
/-- Sofar(source = v) and its kin: made or refused -/
theorem we_mk1K (hI : EntIK C.M j Cl ["source"] (TTieI C.M.K bn)) (hc : Cls C.M.K Cl) (hn : NoAttr C.M.K Cl "source") (hm : C.M.mg x = some (.ref Cl)) (hj : j + 2 ≤ C.k) (gx : x ∈ C.Gs)
    (hall : ∀ env, (backToKw pos (keywordEach kws env)).all (·.1.isSome) = true) (hks : ∀ env, (backToKw pos (keywordEach kws env)).filterMap (·.1) = [("source" : Str)])
    (hpl : ∀ env, ((backTo pos (starEach [] env)).any (·.1) || (backToKw pos (keywordEach kws env)).any (·.1.isNone)) = false)
    (h : WK C X kws Γ O fun zs O1 => ∃ v n, zs = [v] ∧ v.tyN = some n ∧ v.shortS ∧ (v.isNm = true → Q (.ins Cl [("source", v)]) O1) ∧ (v.isNm = false → C.ED ⟨bn, [("value", v)]⟩ Γ O1)) :
    DL.WE C X (.Call (.Name x p) [] kws pos) Γ O Q := by
  obtain ⟨fi, mk, R⟩ := hI
  refine we_frz (we_clK0 ["source"] hall hks hpl (wn_cls hm gx ⟨Cl, rfl, mk.kp, .mk fun ok σ H S k hk => h ok σ H S k fun vs H1 ds O1 ⟨v, n, e1, hn1, hs, q1, q2⟩ S1 l1 r1 => hk vs H1 ds O1 ⟨by rw [e1]; rfl, ?_⟩ S1 l1 r1⟩))
  subst e1
  refine cb_mkE mk R hj fun a ha => ⟨a, Cl, v, n, rfl, hn1, hs, .here, hc, hn, fun z O' u => ⟨rfl, a, O1, rfl, .inr (.inr ⟨Cl, _, ?_, q1 z⟩)⟩, fun z => ⟨a, _, O1, .here, q2 z⟩⟩
  cases u with
  | here => exact .here
  | there u => exact absurd (List.mem_map.mpr ⟨_, u.at_.1.mem, rfl⟩) ha
/-- Back(number = u, source = v), Ahead(..): made or refused -/
theorem we_mk2K (hI : EntIK C.M j Cl ["number", "source"] (TSwp (TNumI Cl bn bd lo))) (hm : C.M.mg x = some (.ref Cl)) (hj : j + 2 ≤ C.k) (gx : x ∈ C.Gs)
    (hall : ∀ env, (backToKw pos (keywordEach kws env)).all (·.1.isSome) = true) (hks : ∀ env, (backToKw pos (keywordEach kws env)).filterMap (·.1) = [("number" : Str), "source"])
    (hpl : ∀ env, ((backTo pos (starEach [] env)).any (·.1) || (backToKw pos (keywordEach kws env)).any (·.1.isNone)) = false)
    (h : WK C X kws Γ O fun zs O1 => ∃ u v n m, zs = [u, v] ∧ v.tyN = some n ∧ v.shortS ∧ u.tyN = some m ∧ (v.isNm = true → u.inB lo 60 = true → Q (.ins Cl [("source", v), ("number", u)]) O1) ∧
      (v.isNm = false → C.ED ⟨bn, [("value", v)]⟩ Γ O1) ∧ (v.isNm = true → u.inB lo 60 = false → C.ED ⟨bd, [("value", u)]⟩ Γ O1)) :
    DL.WE C X (.Call (.Name x p) [] kws pos) Γ O Q := by
  obtain ⟨fi, mk, R⟩ := hI
  refine we_frz (we_clK0 ["number", "source"] hall hks hpl (wn_cls hm gx ⟨Cl, rfl, mk.kp, .mk fun ok σ H S k hk => h ok σ H S k fun vs H1 ds O1 ⟨u, v, n, m, e1, hn1, hs, hm1, q1, q2, q3⟩ S1 l1 r1 => hk vs H1 ds O1 ⟨by rw [e1]; rfl, ?_⟩ S1 l1 r1⟩))
  subst e1
  refine cb_mkE mk R hj fun a ha => ⟨.ref a, u, v, rfl, a, v, u, n, m, rfl, hn1, hs, hm1, .here, fun z => ⟨a, _, O1, .here, q2 z⟩, fun z z2 O' w => ⟨a, (.ins Cl [("source", v)]), O1, ?_, q3 z z2⟩, fun z z2 O' w => ⟨rfl, a, O1, rfl, .inr (.inr ⟨Cl, _, ?_, q1 z z2⟩)⟩⟩
  · cases w with
    | here => exact .here
    | there w => exact absurd (List.mem_map.mpr ⟨_, w.at_.1.mem, rfl⟩) ha
  · cases w with
    | here => exact .here
    | there w => exact absurd (List.mem_map.mpr ⟨_, w.at_.1.mem, rfl⟩) ha
end
/-! ### comprehensions over one name, nothing written -/
section
variable {C : CD} {X : Cx} {Γ : En} {O : Own} {Q : D → Own → Prop} {iter elt : Expr} {ifs : List Expr} {scope : Scope} {pos p : Pos} {x : Str}
theorem wgx_imp {C : CD} {X : Cx} {xs : List Str} {tg : Expr} {d : D} {Γ : En} {O : Own} {R R' : En → Own → Prop} (h : WGx C X xs tg d Γ O R) (i : ∀ Γ' O', R Γ' O' → R' Γ' O') : WGx C X xs tg d Γ O R' := .mk fun ok σ H S v r k hk =>
  h ok σ H S v r k fun σ' H' Γ' O' q => hk σ' H' Γ' O' (i _ _ q)
theorem wts_imp {C : CD} {X : Cx} {Γ : En} {O : Own} {Q Q' : Bool → Own → Prop} (i : ∀ b O', Q b O' → Q' b O') : ∀ {ifs : List Expr}, WTs C X ifs Γ O Q → WTs C X ifs Γ O Q'
  | [], h => i _ _ h
  | [_], h => .mk fun ok σ H S k hk => (show DL.WT _ _ _ _ _ _ from h) ok σ H S k fun b H' O' q => hk b H' O' (i _ _ q)
  | _ :: _ :: _, h => h
theorem we_lcf {tg : Expr} (Vs Gs xs : List Str) (f : D → Option D) (hB : blkB C.N C.sc scope xs Vs Gs = true) (hs : ∀ env y, foldedSetIterable iter env y = pure y)
    (h : WI C X tg iter Γ O fun ds Src O1 => ds.length ≤ sizeLine ∧ (∀ O', Src O') ∧ Q (.lst (ds.filterMap f)) O1 ∧ ∃ Γw, Wp Γ xs Γw ∧
      ∀ H1 d, d ∈ ds → ∀ a acc, LcTurn (C.blk scope Vs xs Gs O1 H1) xs tg elt ifs d Γw ((a, .lst acc) :: O1) fun oe O4 => O4 = (a, .lst acc) :: O1 ∧ oe = f d) :
    DL.WE C X (.ListComp elt [⟨tg, iter, ifs, 0⟩] scope pos) Γ O Q := by
  refine we_frz (we_lc Vs Gs xs hB hs ?_)
  refine .mk fun ok σ H S k hk => h ok σ H S k fun J H1 ds Src O1 ⟨hl, hsrc, hq, Γw, hw, ht⟩ S1 l1 gj => hk J H1 ds Src O1 ?_ S1 l1 gj
  refine ⟨hl, Γw, fun i acc O' => acc = (ds.take i).filterMap f ∧ O' = O1, hw, ⟨rfl, rfl⟩, fun _ _ _ _ _ => hsrc _, ?_, ?_⟩
  · rintro H1 i d acc O' a hi ⟨rfl, rfl⟩ ha
    have t := ht H1 d (List.mem_of_getElem? hi) a ((ds.take i).filterMap f)
    have e : ∀ oe, oe = f d → accO ((ds.take i).filterMap f) oe = (ds.take (i + 1)).filterMap f := fun oe h => by
      subst h
      rw [List.take_succ, hi]
      simp only [Option.toList, List.filterMap_append, List.filterMap_cons, List.filterMap_nil]
      cases f d <;> simp [accO]
    intro X
    refine wgx_imp (t X) fun Γ2 O2 z X => ?_
    exact wts_imp (fun b O3 ⟨q1, q2⟩ => ⟨fun hb X => we_imp (q1 hb X) fun oe O4 ⟨h1, h2⟩ => ⟨_, h1, e _ h2, rfl⟩, fun hb => by
      obtain ⟨h1, h2⟩ := q2 hb
      exact ⟨_, h1, e _ h2, rfl⟩⟩) (z X)
  · rintro acc O' a ⟨rfl, rfl⟩ ha
    refine ⟨a, O', rfl, .inl ⟨_, .here, ?_⟩⟩
    rw [List.take_length]
    exact hq
end
end DL
namespace DL
open PySem PySem.Spec PyProof.Rows L2 PySem.W.KIN

universe u
/-! ### a tie's words -/
def lineP (k : Kd) (s : Str) (n : Int) : List Str := if k.num then [kdS k, toString n, s] else [kdS k, s]
theorem kdW_eq (k : Kd) : TL.tl (kdW k) = TL.tl (kdS k) ++ [32] := by cases k <;> decide +kernel
theorem tieS_join (k : Kd) (s : Str) (n : Int) : Txt.join " " (lineP k s n) = tieS k s n := by
  rw [TL.join_eq]
  refine TL.ext_tl ?_
  rw [TL.tl_join]
  have e : TL.tl (" " : Str) = [32] := by decide +kernel
  have e0 : TL.tl Str.empty = [] := by decide +kernel
  unfold lineP tieS
  cases k.num <;> simp only [Bool.false_eq_true, if_false, if_true, List.map_cons, List.map_nil, TL.joinL, TL.tl_append, kdW_eq, e, e0, List.nil_append, List.append_assoc]
theorem no32_kd (k : Kd) : 32 ∉ TL.tl (kdS k) := by cases k <;> decide +kernel
theorem no32_int (n : Int) : 32 ∉ TL.tl (Str.ofString (toString n)) := fun h => (PyProof.Rows.intText_free_32 n).mp h
theorem nm_letters {s : Str} (h : nmOk s = true) : ∀ c ∈ s.cps.toList, c ∈ lettersS.cps.toList := by
  unfold nmOk at h
  simp only [Bool.and_eq_true, List.all_map, List.all_eq_true, Function.comp, id, decide_eq_true_eq] at h
  exact h.2
theorem no32_nm {s : Str} (h : nmOk s = true) : 32 ∉ TL.tl s := fun z => by
  have := nm_letters h 32 z
  revert this
  decide +kernel
theorem line_free {k : Kd} {s : Str} {n : Int} (h : nmOk s = true) : ∀ p ∈ lineP k s n, 32 ∉ TL.tl p := by
  intro p hp
  unfold lineP at hp
  cases hk : k.num <;> rw [hk] at hp <;> simp only [Bool.false_eq_true, if_false, if_true, List.mem_cons, List.not_mem_nil, or_false] at hp
  · rcases hp with rfl | rfl
    · exact no32_kd k
    · exact no32_nm h
  · rcases hp with rfl | rfl | rfl
    · exact no32_kd k
    · exact no32_int n
    · exact no32_nm h
theorem line_ne {k : Kd} {s : Str} {n : Int} : lineP k s n ≠ [] := by unfold lineP; cases k.num <;> simp
theorem line_split {k : Kd} {s : Str} {n : Int} (h : nmOk s = true) : Txt.split (tieS k s n) " " = lineP k s n := by
  rw [← tieS_join]
  exact TL.split_join (s := 32) (S := []) (by decide +kernel) (by decide +kernel) line_ne (line_free h)
theorem kdS_inj {k k' : Kd} (h : kdS k = kdS k') : k = k' := by
  revert h
  cases k <;> cases k' <;> first | exact fun _ => rfl | (intro h; exact absurd h (by decide +kernel))
theorem int_inj {n n' : Int} (h0 : 0 ≤ n) (h1 : n < 10 ^ 10) (g0 : 0 ≤ n') (g1 : n' < 10 ^ 10) (h : Str.ofString (toString n) = Str.ofString (toString n')) : n = n' := by
  have a := num_reads h0 h1
  have b := num_reads g0 g1
  rw [h] at a
  rw [a] at b
  exact Option.some.inj b
theorem tieS_inj {k k' : Kd} {s s' : Str} {n n' : Int} (h : nmOk s = true) (h' : nmOk s' = true) (hk : kOk k n) (hk' : kOk k' n') (e : tieS k s n = tieS k' s' n') : k = k' ∧ s = s' ∧ (k.num = true → n = n') := by
  have e2 : lineP k s n = lineP k' s' n' := by rw [← line_split h, ← line_split h', e]
  unfold lineP at e2
  cases a : k.num <;> cases b : k'.num <;> rw [a, b] at e2 <;> simp only [Bool.false_eq_true, if_false, if_true, List.cons.injEq, and_true, reduceCtorEq, and_false, List.cons_ne_nil, List.nil_eq] at e2
  · exact ⟨kdS_inj e2.1, e2.2, fun z => by cases z⟩
  · exact ⟨kdS_inj e2.1, e2.2.2, fun _ => int_inj hk.1 (by have := hk.2.1; omega) hk'.1 (by have := hk'.2.1; omega) e2.2.1⟩
theorem tieS_iff {k k' : Kd} {s s' : Str} {n n' : Int} (h : nmOk s = true) (h' : nmOk s' = true) (hk : kOk k n) (hk' : kOk k' n') : decide (tieS k s n = tieS k' s' n') = decide (k = k' ∧ s = s' ∧ (k.num = true → n = n')) := by
  refine decide_eq_decide.mpr ⟨tieS_inj h h' hk hk', ?_⟩
  rintro ⟨rfl, rfl, e⟩
  unfold tieS
  cases q : k.num
  · rfl
  · rw [e q]
theorem eq_str {a b : Str} : PyData.eqv (.str a) (.str b) = decide (a = b) := by
  by_cases h : a = b
  · subst h; simp [PyData.eqv]
  · simp [PyData.eqv, h]
theorem plain_eq {k k' : Kd} {s s' : Str} {n n' : Int} : D.eq (plainD k s n) (plainD k' s' n') = decide (k = k' ∧ s = s' ∧ (k.num = true → n = n')) := by
  have hk : ∀ k k' : Kd, decide (kdS k = kdS k') = decide (k = k') := fun k k' => decide_eq_decide.mpr ⟨kdS_inj, fun e => by rw [e]⟩
  have key : D.eq (plainD k s n) (plainD k' s' n') = (decide (k = k') && (PyData.eqv (D.py (if k.num then .int n else .non)) (D.py (if k'.num then .int n' else .non)) && decide (s = s'))) := by
    unfold plainD D.eq
    simp only [D.py, D.pys]
    rw [← hk]
    have hb : ∀ a b : Str, (a == b) = decide (a = b) := fun a b => by by_cases h : a = b <;> simp [h]
    simp [PyData.eqv, PyData.eqvAll, hb]
  rw [key]
  by_cases e : k = k'
  · subst e
    cases q : k.num
    · simp [D.py, PyData.eqv]
    · simp only [decide_true, Bool.true_and, if_true, D.py, true_and, forall_const]
      have : PyData.eqv (.int n) (.int n') = decide (n = n') := by by_cases z : n = n' <;> simp [PyData.eqv, z]
      rw [this]
      by_cases z : n = n' <;> by_cases w : s = s' <;> simp [z, w]
  · simp [e]
/-! ### the labels of a law, the numbers -/
def sixS : List Str := ["a", "back", "from", "last", "zzzzzzzz", "b"]
theorem six_nm : ∀ s ∈ sixS, nmOk s = true ∧ PyData.strOk s = true := by decide +kernel
def labOk : D → Bool
  | .str s => decide (s ∈ sixS)
  | _ => false
theorem inV_strs {v : Str} {xs : List Str} : inV (D.sv (.str v)) ((xs.map D.str).map D.sv) = decide (v ∈ xs) := by
  have e : (xs.map D.str).map D.sv = xs.map V.str := by rw [List.map_map]; rfl
  rw [e]
  induction xs with
  | nil => rfl
  | cons x xs ih =>
    rw [List.map_cons]
    unfold inV at ih ⊢
    rw [List.any_cons, ih (by rw [List.map_map]; rfl)]
    show ((x == v) || decide (v ∈ xs)) = _
    by_cases h1 : x = v
    · subst h1; simp
    · by_cases h2 : v ∈ xs
      · simp [h2]
      · simp [h1, h2, Ne.symm h1]
theorem fl_strs {xs : List Str} : (xs.map D.str).all D.fl = true := by
  induction xs with
  | nil => rfl
  | cons x xs ih => rw [List.map_cons, List.all_cons, ih]; rfl
theorem lab_no {v : D} (h : v.isS = false) : labOk v = false := by cases v <;> first | rfl | cases h
structure LabV (v : D) : Prop where
  ty : ∃ n, v.tyN = some n
  sh : v.shortS
  rp : Rp v
  so : PyData.strOk v.pd.shown = true
  nm : v.isNm = labOk v
structure NumV (u : D) : Prop where
  ty : ∃ n, u.tyN = some n
  rp : Rp u
  so : PyData.strOk u.pd.shown = true
def kLo (k : Kd) : Int := if k = .ahead then 1 else 0
def dueD (k : Kd) (v u : D) : D :=
  if labOk v then (if k.num && !u.inB (kLo k) 60 then .tup [.str "number", .str u.pd.shown] else .non) else .tup [.str "name", .str v.pd.shown]
def TDue : TF := fun ds O Q _ => ∃ k v u, ds = [.str (kdS k), v, u] ∧ LabV v ∧ NumV u ∧ Q (dueD k v u) O
def TNamed (A : TA) (bn bd : Addr) : TF := fun ds O Q E => ∃ k v u, ds = [.str (kdS k), v, u] ∧ LabV v ∧ NumV u ∧ (labOk v = false → E ⟨bn, [("value", v)]⟩ O) ∧ (labOk v = true → k.num = true → u.inB (kLo k) 60 = false → E ⟨bd, [("value", u)]⟩ O) ∧
  (labOk v = true → (k.num = true → u.inB (kLo k) 60 = true) → Q (.ins (A.c k) (tieF k v u)) O)
def TLine : TF := fun ds O Q _ => ∃ k s n, ds = [plainD k s n] ∧ kOk k n ∧ nmOk s = true ∧ Q (.str (tieS k s n)) O
def TRightT (A : TA) : TF := fun ds O Q _ => ∃ k s n, ds = [tieD A k s n, plainD k s n] ∧ kOk k n ∧ nmOk s = true ∧ Q (.bl true) O
theorem shp_plain {k : Kd} {s : Str} {n : Int} (h : PyData.strOk s = true) : (plainD k s n).shp = true := by
  unfold plainD D.shp
  have h2 : PyData.strOk (kdS k) = true := by cases k <;> exact strOk_ofString _
  cases k.num <;> simp [D.isPy, D.arePy, D.py, D.pys, SeqAt.shaped, PyData.canLay0, PyData.canLayAll0, PyData.depth, PyData.depthAll, h, h2]
theorem kEx {α : Sort u} {p : α → Prop} (h : ∃ x, p x) : ∃ x, p x := h
theorem kAn {a b : Prop} (h : a ∧ b) : a ∧ b := h
section
variable {C : CD} {X : Cx} {Γ : En} {O : Own} {Q : D → Own → Prop}
theorem ow_notinT {x b : D} {ds : List D} {t : Bool} (hx : x.fl = true) (hs : Sq O b ds) (hf : ds.all D.fl = true) (h : inV x.sv (ds.map D.sv) = t) (q : Q (.bl (!t)) O) : OW C X (compareOp .NotIn) x b Γ O Q := ow_notin hx hs hf (by rw [h]; exact q)
theorem ow_inSs {v : Str} {b : D} {ds : List D} {xs : List Str} (hs : Sq O b ds) (e : ds = xs.map .str) (q : Q (.bl (decide (v ∈ xs))) O) : OW C X (compareOp .In) (.str v) b Γ O Q := by
  subst e
  exact ow_in rfl hs fl_strs (by rw [inV_strs]; exact q)
theorem ow_notinSs {v : Str} {b : D} {ds : List D} {xs : List Str} (hs : Sq O b ds) (e : ds = xs.map .str) (q : Q (.bl (!decide (v ∈ xs))) O) : OW C X (compareOp .NotIn) (.str v) b Γ O Q := by
  subst e
  exact ow_notin rfl hs fl_strs (by rw [inV_strs]; exact q)
end
end DL
namespace DL
open PySem PySem.Spec PyProof.Rows L2

/-! ### values of menus -/
theorem num_int {i : Int} (h : i.natAbs < 10 ^ 100) : NumV (.int i) := ⟨⟨_, rfl⟩, rp_int h, strOk_ofString _⟩
theorem num_odd {d : D} (o : Odd d) : NumV d := by
  obtain ⟨ty, _, rp, so⟩ := o
  exact ⟨ty, rp, so⟩
theorem lab_of {d : D} (o : NumV d) (h : d.isS = false) : LabV d :=
  ⟨o.ty, (by cases d <;> first | exact True.intro | cases h), o.rp, o.so, (by cases d <;> first | rfl | cases h)⟩
theorem lab_str {x : Str} (so : PyData.strOk (D.str x).pd.shown = true) (h : x.cps.size ≤ 40 ∧ ∀ c ∈ x.cps.toList, c < 16 ^ 8) (nm : nmOk x = decide (x ∈ sixS)) : LabV (.str x) := by
  obtain ⟨ty, _, rp, so'⟩ := odd_str so h
  exact ⟨ty, sz (by show x.cps.size ≤ 1000; omega), rp, so', nm⟩
theorem num_tup1 {d : D} (h : d = .tup [.int 1]) : NumV d := by
  subst h
  exact num_odd (odd_tup (by decide +kernel) (show PSmAll 100 [.int 1] from ⟨by show (1 : Int).natAbs < 10 ^ 100; decide +kernel, True.intro⟩) rfl (by decide +kernel) (by decide +kernel))
theorem num_lst1 {d : D} (h : d = .lst [.int 1]) : NumV d := by
  subst h
  exact num_odd (odd_lst (by decide +kernel) (show PSmAll 100 [.int 1] from ⟨by show (1 : Int).natAbs < 10 ^ 100; decide +kernel, True.intro⟩) rfl (by decide +kernel) (by decide +kernel))
theorem psm_a : PSmAll 100 [PyData.str "a"] := ⟨by show (Str.ofString "a").cps.size ≤ 40 ∧ ∀ c ∈ (Str.ofString "a").cps.toList, c < 16 ^ 8; decide +kernel, True.intro⟩
theorem lab_tupa : LabV (.tup [.str "a"]) := lab_of (num_odd (odd_tup (by decide +kernel) psm_a rfl (by decide +kernel) (by decide +kernel))) rfl
theorem lab_lsta : LabV (.lst [.str "a"]) := lab_of (num_odd (odd_lst (by decide +kernel) psm_a rfl (by decide +kernel) (by decide +kernel))) rfl
theorem six_lab : ∀ x ∈ sixS, LabV (.str x) := by
  intro x hx
  simp only [sixS, List.mem_cons, List.not_mem_nil, or_false] at hx
  rcases hx with rfl | rfl | rfl | rfl | rfl | rfl <;> exact lab_str (by decide +kernel) (by decide +kernel) (by decide +kernel)
theorem labOk_ex {d : D} (h : labOk d = true) : ∃ x, d = .str x ∧ x ∈ sixS := by
  cases d with
  | str x => exact ⟨x, rfl, of_decide_eq_true h⟩
  | _ => cases h
theorem shp_two {a b : Str} (ha : PyData.strOk a = true) (hb : PyData.strOk b = true) : D.shp (.tup [.str a, .str b]) = true := by
  simp [D.shp, D.isPy, D.arePy, D.py, D.pys, SeqAt.shaped, PyData.canLay0, PyData.canLayAll0, PyData.depth, PyData.depthAll, ha, hb]
theorem tieV_iff {k k' : Kd} {s s' : Str} {n n' : Int} (h : nmOk s = true) (h' : nmOk s' = true) (hk : kOk k n) (hk' : kOk k' n') : decide (V.str (tieS k s n) = V.str (tieS k' s' n')) = decide (k = k' ∧ s = s' ∧ (k.num = true → n = n')) := by
  rw [← tieS_iff h h' hk hk']
  exact decide_eq_decide.mpr ⟨fun e => V.str.inj e, fun e => by rw [e]⟩
end DL
namespace DL
open PySem PySem.Spec PyProof.Rows L2

/-! ### defs with defaults -/
theorem fn_bodyV {M : Md} {x qual : Str} {st : Stmt} {f : Addr} {fd : FuncData} {N Vs ps Gs : List Str} {k : Nat} {T : TF} {dvs : List V} (F : FunD M.K x qual (defArgs st) (defBody st) (defScope st) dvs [] f fd) (S : Sco N Vs ps Gs (defScope st))
    (len : ∀ ds O Q E, T ds O Q E → ds.length = ps.length)
    (body : ∀ ds O QD ED, T ds O QD ED → ∀ H X, WSs (cdOf M k (defScope st) N Vs Gs O H ED) X (defBody st) (start_ N ds) O { nx := fun _ O' => QD .non O', rt := QD }) : FnG M (k + 1) f fd ps (spD M.K T) := by
  obtain ⟨oc, od, dV, kV, doc, pm, an, cdv, ct, osl, rfl, lk, hcd, _, _⟩ := F.ex
  have len' : ∀ vs H Q E, spD M.K T vs H Q E → vs.length = ps.length := fun vs H Q E h => by
    obtain ⟨ds, O, QD, ED, _, r, t, _⟩ := h
    rw [reps_len r, len _ _ _ _ t]
  refine ⟨len', fun A outer s H args us vs Q E hr hg e0 hb rv h => ?_⟩
  have hl := len' _ _ _ _ h
  have KX : M.K.In s.heap := e0.mod.kin.keeps fun b o e => (e0.bs b o e).1
  have lim : s.heap.NoLimit := e0.mod.nolimit.keeps fun b o e => (e0.bs b o e).1
  refine codeAny_call_function hr.depth (KX _ _ lk) rfl S.fs.co S.fs.gen rfl (PySem.W.codeRec_of KX hcd) (hb _ _ _ _ ?_)
  refine wpAny_newFunctionEnv_cells S.fs.kind (fun ⟨n, v⟩ hy => ?_) fun env he s1 x => ?_
  · rcases S.fs.par n (List.of_mem_zip hy).1 with q | q
    · exact .inl q
    · exact .inr ⟨q, PySem.W.cellsFrom_some _ _ _ (.inl q)⟩
  subst he
  refine ⟨lim.keeps x.toInCall.keep, codeAny_func ?_⟩
  obtain ⟨ds, O, QD, ED, w, r, t, hQ, hE⟩ := h
  have hl2 : ds.length ≤ N.length := by
    rw [len _ _ _ _ t]
    have := congrArg List.length S.fs.pre
    rw [List.length_take] at this
    omega
  obtain ⟨s1', s2⟩ := start_sl hl2 r
  have I : Inv (cxOf (L2.CX M.P M.w) M.P M.w M.K M.mg M.base N qual (defScope st) f cdv A outer s H E) [] (L2.start N vs) H s1 := inv_start S.fs hr.hd e0 hl rv x
  have run := body ds O QD ED t H _ (ok_of (qual := qual) (f := f) (cd := cdv) (outer := outer) (s := s) S (hr.deeper _) hg hE) _ H ⟨s2, s1', w, Le.refl _ _⟩ { nx := fun _ H' => Q .non H', rt := Q } ⟨fun σ' H' Γ O' q S' => hQ .non H' .non O' q S'.own S'.le (rep_non.mpr rfl), fun v H' d O' q w' l' r' => hQ v H' d O' q w' l' r', fun _ _ _ _ q _ => q.elim, fun _ _ _ _ q _ => q.elim⟩
  refine wpAny_mono (run [] s1 I) (fun fl s' hs => ?_) fun e s' hs => hs
  match fl, hs with
  | .ret u, hs =>
    obtain ⟨v, σ', H', J, rv', q⟩ := hs
    exact ⟨v, H', J.os, J.bare, J.base, J.hok, rv', q⟩
  | .next, hs =>
    obtain ⟨σ', H', J, q⟩ := hs
    exact ⟨V.non, H', J.os, J.bare, J.base, J.hok, rfl, q⟩
  | .brk, hs =>
    obtain ⟨_, _, _, q⟩ := hs
    exact False.elim q
  | .cont, hs =>
    obtain ⟨_, _, _, q⟩ := hs
    exact False.elim q
theorem df_dfl {M : Md} {j : Nat} {f : Addr} {fd : FuncData} {ps : List Str} {T : TF} {dds : List D} {vs : List V} (F : FnG M j f fd ps (spD M.K T)) (kp : PySem.W.keepIn M.K (.ref f) = true) (hb : ∃ ds, Vals vs ds ∧ Binds M.K fd ps ds) (hr : ∀ N H, Reps M.K N H dds vs) :
    Df M j f (fun ds O Q E => T (ds ++ dds) O Q E) := by
  obtain ⟨du, hv, hb⟩ := hb
  exact F.df kp hb ⟨vs, hv, hr⟩
/-! ### owned things left behind -/
inductive Dr : Own → Own → Prop
  | refl {O : Own} : Dr O O
  | tk {O O1 O2 : Own} {a : Addr} {od : OD} : OTk O a od O1 → Dr O1 O2 → Dr O O2
theorem Dr.le {O O2 : Own} {H : Hp} (h : Dr O O2) : Le O H O2 H := by
  induction h with
  | refl => exact Le.refl _ _
  | tk t _ ih => exact t.le.trans ih
theorem Dr.own {K : PySem.W.Frag} {O O2 : Own} {H : Hp} (h : Dr O O2) : OwnOk K O H → OwnOk K O2 H := by
  induction h with
  | refl => exact id
  | tk t _ ih => exact fun w => ih (t.own w)
theorem Dr.repx {K : PySem.W.Frag} {O O2 : Own} {H : Hp} {x : Exn} {cls : Value} {d : Option Addr} (h : Dr O O2) : RepX K O H x cls d → RepX K O2 H x cls d := by
  induction h with
  | refl => exact id
  | tk t _ ih => exact fun w => ih (w.drop t)
def TDr (T : TF) : TF := fun ds O QD' ED' => ∃ QD ED, T ds O QD ED ∧ QD' = (fun d O' => ∃ O2, Dr O' O2 ∧ QD d O2) ∧ ED' = fun x O' => ∃ O2, Dr O' O2 ∧ ED x O2
theorem spD_dr {K : PySem.W.Frag} {T : TF} {vs : List V} {H : Hp} {Q : VK} {E : XK} (h : spD K T vs H Q E) : spD K (TDr T) vs H Q E := by
  obtain ⟨ds, O, QD, ED, w, r, t, hQ, hE⟩ := h
  exact ⟨ds, O, _, _, w, r, ⟨QD, ED, t, rfl, rfl⟩, fun v H' d O' ⟨O2, dr, q⟩ w' l' r' => hQ v H' d O2 q (dr.own w') (l'.trans dr.le) (Rep.le dr.le r'), fun cls dx H' x O' ⟨O2, dr, q⟩ w' l' r' => hE cls dx H' x O2 q (dr.own w') (l'.trans dr.le) (dr.repx r')⟩
theorem fn_bodyX {M : Md} {x qual : Str} {st : Stmt} {f : Addr} {fd : FuncData} {N Vs ps Gs : List Str} {k : Nat} {T : TF} {dvs : List V} (F : FunD M.K x qual (defArgs st) (defBody st) (defScope st) dvs [] f fd) (S : Sco N Vs ps Gs (defScope st))
    (len : ∀ ds O Q E, T ds O Q E → ds.length = ps.length)
    (body : ∀ ds O QD ED, T ds O QD ED → ∀ H X, WSs (cdOf M k (defScope st) N Vs Gs O H fun x O' => ∃ O2, Dr O' O2 ∧ ED x O2) X (defBody st) (start_ N ds) O { nx := fun _ O' => ∃ O2, Dr O' O2 ∧ QD .non O2, rt := fun d O' => ∃ O2, Dr O' O2 ∧ QD d O2 }) : FnG M (k + 1) f fd ps (spD M.K T) := by
  have G : FnG M (k + 1) f fd ps (spD M.K (TDr T)) := fn_bodyV F S (fun ds O Q E ⟨_, _, t, _, _⟩ => len _ _ _ _ t) fun ds O Q E ⟨QD, ED, t, e1, e2⟩ H X => by
    subst e1
    subst e2
    exact body ds O QD ED t H X
  exact ⟨fun vs H Q E h => G.len vs H Q E (spD_dr h), fun A outer s H args us vs Q E hr hg e0 hb rv h => G.run A outer s H args us vs Q E hr hg e0 hb rv (spD_dr h)⟩
theorem Fun.toD {K : PySem.W.Frag} {x qual : Str} {st : Stmt} {f : Addr} {fd : FuncData} (F : Fun K x qual st f fd) : FunD K x qual (defArgs st) (defBody st) (defScope st) [] [] f fd := by
  obtain ⟨oc, od, kV, doc, pm, an, cdv, ct, osl, rfl, lk, hcd⟩ := F.ex
  exact ⟨⟨oc, od, .none, kV, doc, pm, an, cdv, ct, osl, rfl, lk, hcd, .inl ⟨rfl, rfl⟩, .inl rfl⟩, F.kp⟩
/-! ### texts -/
section
variable {C : CD} {X : Cx} {Γ : En} {O : Own} {Q : D → Own → Prop} {a b o e : Expr} {pos apos cpos : Pos}
/-- int(x), x a text of figures -/
theorem bf_intS {x : Str} {n : Int} (h : PySem.intText? x = some n) (hl : x.length ≤ 640) (q : Q (.int n) O) : BF C (.type "int") [.str x] Γ O Q := bf_of (fun X ok => call_int_str) fun σ H vs S r0 k hk => by
  obtain ⟨v, rfl, r⟩ := reps1 r0
  rw [rep_str] at r
  subst r
  exact ⟨x, n, rfl, h, hl, hk.at q S (rep_int.mpr rfl)⟩
/-- x[i], x a text -/
theorem we_ixS (hs : PlainIx b) (h : DL.WE C X a Γ O fun x O1 => DL.WE C X b Γ O1 fun y O2 => ∃ z i c, x = .str z ∧ y = .int i ∧ z.length ≤ sizeLine ∧ atI z.cps.toList i = some c ∧ Q (.str ⟨#[c]⟩) O2) : DL.WE C X (.Subscript a b pos) Γ O Q := .mk fun ok σ H S k hk =>
  ew_of (pe_ix ix_str pe_ew pe_ew hs) (h ok σ H S _ fun v H1 x O1 q1 S1 l1 r1 => q1 ok σ H1 S1 _ fun w H2 y O2 q2 S2 l2 r2 => by
    obtain ⟨z, i, c, rfl, rfl, hl, ha, q⟩ := q2
    rw [rep_int] at r2
    have r1' := rep_str.mp (Rep.le l2 r1)
    exact ⟨z, i, c, r1', r2, hl, ha, hk _ H2 _ O2 q S2 (l1.trans l2) (rep_str.mpr rfl)⟩)
/-- x.split(sep) -/
theorem we_split (hbase : ∀ env, attributeBase o "split" env (eval o env) = eval o env)
    (hfew : ∀ env, ((backTo cpos (starEach [e] env)).all (fun x => !x.1) && (backToKw cpos (keywordEach [] env)).all (fun x => x.1.isSome)
      && decide (([e] : List Expr).length + ([] : List Keyword).length + (if ([] : List Keyword).isEmpty then 0 else 1) < 30)) = true)
    (hline : (apos.endLine == cpos.line) = true) (hs : ∀ env, starEach [e] env = [(false, eval e env)])
    (h : DL.WE C X o Γ O fun x O1 => ∃ a, x = .str a ∧ a.length + 2 ≤ sizeLine ∧ DL.WE C X e Γ O1 fun d O2 => ∃ b, d = .str b ∧ (b.length == 0) = false ∧ Q (.lst ((Txt.split a b).map .str)) O2) : DL.WE C X (.Call (.Attribute o "split" apos) [e] [] cpos) Γ O Q :=
  we_bm F.plainAttrs_str F.slot_str_split F.type_str_split hbase hfew hline (fun env => by rw [hs]; rfl) (fun _ => rfl) (we_imp h fun x O1 ⟨a, e1, hz, q⟩ => ⟨by subst e1; exact .str, wa_cons (fun env => by rw [hs]; rfl) (we_imp q fun d O2 ⟨b, e2, hb, q⟩ => wa_nil (by subst e1; subst e2; exact bf_split hb hz q))⟩)
end
/-! ### numbers in texts -/
def figuresS : Str := "0123456789"
def figOk (x : Str) : Bool := (x.cps.toList.map fun c => decide (c ∈ figuresS.cps.toList)).all id
/-- number_in -/
def numIn (x : Str) : Option Int :=
  if x = "" ∨ 60 < x.length ∨ figOk x = false then none else if x = "0" ∨ x.cps.toList.head? ≠ some 48 then PySem.intText? x else none
def numD (x : Str) : D := match numIn x with
  | some n => .int n
  | none => .non
theorem fig_mem {c : Nat} : c ∈ figuresS.cps.toList ↔ 48 ≤ c ∧ c ≤ 57 := by
  have e : figuresS.cps.toList = [48, 49, 50, 51, 52, 53, 54, 55, 56, 57] := by decide +kernel
  rw [e]
  simp only [List.mem_cons, List.not_mem_nil, or_false]
  omega
theorem figOk_all {x : Str} (h : figOk x = true) : NumText.AllDigits x.cps.toList := by
  unfold figOk at h
  simp only [List.all_map, List.all_eq_true, Function.comp, id, decide_eq_true_eq] at h
  exact fun c hc => fig_mem.mp (h c hc)
/-- the signs of a text, asked one by one -/
def sgnF (z : Str) (d : D) : Option D := match d with
  | .str y => match y.cps.toList with
    | [c] => some (.bl (decide (c ∈ z.cps.toList)))
    | _ => none
  | _ => none
theorem sgn_fm {x z : Str} : (sgnD x).filterMap (sgnF z) = (x.cps.toList.map fun c => decide (c ∈ z.cps.toList)).map .bl := by
  unfold sgnD
  rw [List.filterMap_map, List.map_map]
  induction x.cps.toList with
  | nil => rfl
  | cons c l ih =>
    rw [List.map_cons, ← ih]
    rfl
theorem num_some {x : Str} (h0 : x ≠ "") (h1 : x.length ≤ 60) (h2 : figOk x = true) : ∃ n, PySem.intText? x = some n := by
  refine ⟨_, intText_digits (figOk_all h2) (fun e => h0 ?_) (by omega)⟩
  cases x with
  | mk a =>
    have : a = #[] := Array.toList_inj.mp e
    subst this
    rfl
theorem str_head {x : Str} (h0 : x ≠ "") : ∃ c l, x.cps.toList = c :: l := by
  cases h : x.cps.toList with
  | cons c l => exact ⟨c, l, rfl⟩
  | nil =>
    exfalso
    apply h0
    cases x with
    | mk a =>
      have : a = #[] := Array.toList_inj.mp h
      subst this
      rfl
theorem atI_hd {α : Type} {c : α} {l : List α} : atI (c :: l) 0 = some c := by
  simp [atI, ixN]
theorem szw {n : Nat} (h : n ≤ 100000) : n < sizeLine := Nat.lt_of_le_of_lt h (by decide)
theorem sz2 {n : Nat} (h : n ≤ 4000) : n + 2 ≤ sizeLine := Nat.le_trans (Nat.add_le_add_right h 2) (by decide)
def TNumIn : TF := fun ds O Q _ => ∃ x, ds = [.str x] ∧ x.length ≤ sizeLine ∧ Q (numD x) O
/-! ### the words of a line -/
abbrev wsF (ws : List Str) (i : Nat) : List (Str × D) := [("split_words", .lst (ws.map .str)), ("line_index", .int 0), ("next_index", .int (i : Int))]
abbrev wsK : List Str := ["split_words", "line_index", "next_index"]
theorem ws_lk {ws : List Str} {i : Nat} {m : Str} (h : wsK.contains m = false) : (wsF ws i).lookup m = none := lk_none (ks := wsK) rfl h
def upS (ws : List Str) (i : Nat) : D := match ws[i]? with
  | some x => .str x
  | none => .non
def badT (bt : Addr) (i : Nat) : Exn := ⟨bt, [("word", .int (i : Int)), ("line", .int 0)]⟩
structure WsOk (ws : List Str) (i : Nat) : Prop where
  le : i ≤ ws.length
  len : ws.length ≤ 100000
  sh : ∀ x ∈ ws, x.length ≤ 100000
/-- what a value is, for the test whether it is a text -/
def StrQ (K : PySem.W.Frag) (O : Own) (v : D) : Prop := ∃ t, TyD K O v t ∧ PySem.W.kitOne K t (.type "str") = some v.isS
theorem strQ_of {K : PySem.W.Frag} {O : Own} {v : D} {n : String} (h : v.tyN = some n) : StrQ K O v := ⟨_, tyD_of h, kit_str h⟩
theorem TyD.there {K : PySem.W.Frag} {O : Own} {v : D} {t : Value} {p : Addr × OD} (h : TyD K O v t) : TyD K (p :: O) v t := by
  cases h with
  | non => exact .non
  | bl => exact .bl
  | int => exact .int
  | str => exact .str
  | lst => exact .lst
  | tup => exact .tup
  | dct => exact .dct
  | own h => exact .own (.there h)
  | ownD h => exact .ownD (.there h)
  | ins i a b c d e => exact .ins (by cases i with | ins => exact .ins | own h => exact .own (.there h)) a b c d e
theorem StrQ.there {K : PySem.W.Frag} {O : Own} {v : D} {p : Addr × OD} : StrQ K O v → StrQ K (p :: O) v := fun ⟨t, a, b⟩ => ⟨t, a.there, b⟩
def TWordsI (K : PySem.W.Frag) (Cl bt : Addr) : TF := fun ds O Q E => ∃ a v, ds = [.ref a, v, .int 0] ∧ StrQ K O v ∧ OAt O a (.ins Cl []) ∧ (v.isS = false → E (badT bt 0) O) ∧
  (∀ x, v = .str x → x.length ≤ 4000 ∧ ∀ O', OUp O a (.ins Cl []) (.ins Cl (wsF (Txt.split x " ") 0)) O' → Q .non O')
def TRefuse (Cl bt : Addr) : TF := fun ds O Q E => ∃ a ws i, ds = [.ref a, .non] ∧ OAt O a (.ins Cl (wsF ws i)) ∧ E (badT bt i) O
def TIsOver (Cl : Addr) : TF := fun ds O Q _ => ∃ a ws i, ds = [.ref a] ∧ OAt O a (.ins Cl (wsF ws i)) ∧ WsOk ws i ∧ Q (.bl (decide (i = ws.length))) O
def TUpc (Cl : Addr) : TF := fun ds O Q _ => ∃ a ws i, ds = [.ref a] ∧ OAt O a (.ins Cl (wsF ws i)) ∧ WsOk ws i ∧ Q (upS ws i) O
def TSkip (Cl bt : Addr) : TF := fun ds O Q E => ∃ a ws i O', ds = [.ref a] ∧ OUp O a (.ins Cl (wsF ws i)) (.ins Cl (wsF ws (i + 1))) O' ∧ WsOk ws i ∧ (i = ws.length → E (badT bt i) O) ∧
  (∀ x, ws[i]? = some x → Q (.str x) O')
def TTakeN (Cl bt : Addr) : TF := fun ds O Q E => ∃ a ws i lo hi O', ds = [.ref a, .int lo, .int hi] ∧ OUp O a (.ins Cl (wsF ws i)) (.ins Cl (wsF ws (i + 1))) O' ∧ WsOk ws i ∧
  (∀ x n, ws[i]? = some x → numIn x = some n → lo ≤ n → n ≤ hi → Q (.int n) O') ∧
  ((∀ x n, ws[i]? = some x → numIn x = some n → lo ≤ n → n ≤ hi → False) → E (badT bt i) O)
def TClose (Cl bt : Addr) : TF := fun ds O Q E => ∃ a ws i, ds = [.ref a] ∧ OAt O a (.ins Cl (wsF ws i)) ∧ WsOk ws i ∧ (i = ws.length → Q .non O) ∧ (i < ws.length → E (badT bt i) O)
/-- what stands in a line of lengths: the first wrong word, the lengths -/
def lensOf : List Str → Nat → Except Nat (List Int)
  | [], _ => .ok []
  | x :: r, i => match numIn x with
    | some n => if 1 ≤ n ∧ n ≤ 60 then (match lensOf r (i + 1) with
      | .ok ns => .ok (n :: ns)
      | .error j => .error j) else .error i
    | none => .error i
def goodW (x : Str) (n : Int) : Prop := numIn x = some n ∧ 1 ≤ n ∧ n ≤ 60
inductive GoodWs : List Str → List Int → Prop
  | nil : GoodWs [] []
  | cons {x : Str} {n : Int} {ws : List Str} {ns : List Int} : goodW x n → GoodWs ws ns → GoodWs (x :: ws) (n :: ns)
theorem GoodWs.snoc {x : Str} {n : Int} {ws : List Str} {ns : List Int} (g : GoodWs ws ns) (h : goodW x n) : GoodWs (ws ++ [x]) (ns ++ [n]) := by
  induction g with
  | nil => exact .cons h .nil
  | cons a _ ih => exact .cons a ih
theorem GoodWs.len {ws : List Str} {ns : List Int} (g : GoodWs ws ns) : ns.length = ws.length := by
  induction g with
  | nil => rfl
  | cons _ _ ih => simp [ih]
theorem lens_good {ws ws2 : List Str} {ns : List Int} (g : GoodWs ws ns) : ∀ {i : Nat}, lensOf (ws ++ ws2) i = (match lensOf ws2 (i + ws.length) with
    | .ok ms => .ok (ns ++ ms)
    | .error j => .error j) := by
  induction g with
  | nil => intro i; simp; cases lensOf ws2 i <;> rfl
  | @cons x n ws ns h _ ih =>
    intro i
    obtain ⟨h1, h2, h3⟩ := h
    rw [List.cons_append, lensOf, h1]
    dsimp only
    rw [if_pos ⟨h2, h3⟩, ih, show i + 1 + ws.length = i + (x :: ws).length by simp; omega]
    cases lensOf ws2 (i + (x :: ws).length) <;> rfl
theorem lens_bad {x : Str} {r : List Str} {i : Nat} (h : ∀ n, ¬ goodW x n) : lensOf (x :: r) i = .error i := by
  rw [lensOf]
  cases e : numIn x with
  | none => rfl
  | some n => exact if_neg fun z => h n ⟨e, z.1, z.2⟩
def TTakeL (Cl bt : Addr) : TF := fun ds O Q E => ∃ a ws, ds = [.ref a] ∧ OAt O a (.ins Cl (wsF ws 0)) ∧ WsOk ws 0 ∧ ws ≠ [] ∧
  (∀ ns, lensOf ws 0 = .ok ns → ns.length = ws.length → ∀ O', OUp O a (.ins Cl (wsF ws 0)) (.ins Cl (wsF ws ws.length)) O' → Q (.lst (ns.map .int)) O') ∧
  (∀ j, lensOf ws 0 = .error j → ∀ O', OUp O a (.ins Cl (wsF ws 0)) (.ins Cl (wsF ws j)) O' → E (badT bt j) O')
theorem ws_put {ws : List Str} {i : Nat} : putD "next_index" (.int ((i : Int) + 1)) (wsF ws i) = wsF ws (i + 1) := by
  unfold wsF
  rw [putD_ne (by decide +kernel), putD_ne (by decide +kernel)]
  simp [putD]
theorem OUp.new {O O' : Own} {a : Addr} {o o' : OD} (h : OUp O a o o' O') : OAt O' a o' := by
  obtain ⟨_, m, _⟩ := h.more o'
  exact m.at_.1
theorem WsOk.succ {ws : List Str} {i : Nat} (h : WsOk ws i) (hi : i < ws.length) : WsOk ws (i + 1) := ⟨hi, h.len, h.sh⟩
theorem ws_at {ws : List Str} {i : Nat} {x : Str} (h : ws[i]? = some x) : atI (ws.map D.str) (i : Int) = some (.str x) := atI_of (by rw [List.getElem?_map, h]; rfl)
theorem ws_ex {ws : List Str} {i : Nat} (h : i < ws.length) : ∃ x, ws[i]? = some x := ⟨_, List.getElem?_eq_getElem h⟩
theorem upS_lt {ws : List Str} {i : Nat} {x : Str} (h : ws[i]? = some x) : upS ws i = .str x := by unfold upS; rw [h]
theorem upS_ge {ws : List Str} {i : Nat} (h : ws[i]? = none) : upS ws i = .non := by unfold upS; rw [h]
theorem spl_bnd (S : List Nat) : ∀ (l : List Nat) (k : Nat) (acc : List Nat), (TL.spl S k acc l).length ≤ l.length + 1 ∧ TL.spl S k acc l ≠ [] ∧ ∀ p ∈ TL.spl S k acc l, p.length ≤ acc.length + l.length
  | [], k, acc => by
    rw [TL.spl_nil]
    simp
  | c :: r, 0, acc => by
    show (if TL.pre S (c :: r) = true then acc :: TL.spl S (S.length - 1) [] r else TL.spl S 0 (acc ++ [c]) r).length ≤ _ ∧ (if TL.pre S (c :: r) = true then acc :: TL.spl S (S.length - 1) [] r else TL.spl S 0 (acc ++ [c]) r) ≠ [] ∧ ∀ p ∈ (if TL.pre S (c :: r) = true then acc :: TL.spl S (S.length - 1) [] r else TL.spl S 0 (acc ++ [c]) r), _
    split
    · obtain ⟨h1, h2, h3⟩ := spl_bnd S r (S.length - 1) []
      refine ⟨by simp; omega, by simp, fun p hp => ?_⟩
      rcases List.mem_cons.mp hp with rfl | hp
      · omega
      · have := h3 p hp
        simp at this ⊢
        omega
    · obtain ⟨h1, h2, h3⟩ := spl_bnd S r 0 (acc ++ [c])
      refine ⟨by simp; omega, h2, fun p hp => ?_⟩
      have := h3 p hp
      simp at this ⊢
      omega
  | c :: r, k + 1, acc => by
    show (TL.spl S k acc r).length ≤ _ ∧ TL.spl S k acc r ≠ [] ∧ ∀ p ∈ TL.spl S k acc r, _
    obtain ⟨h1, h2, h3⟩ := spl_bnd S r k acc
    refine ⟨by simp; omega, h2, fun p hp => ?_⟩
    have := h3 p hp
    simp
    omega
theorem split_tl (x : Str) : (Txt.split x " ").map TL.tl = TL.spl [32] 0 [] (TL.tl x) := TL.split_spl x " " (by decide +kernel) (TL.kind_ok (by decide +kernel))
theorem split_ok {x : Str} (h : x.length ≤ 4000) : WsOk (Txt.split x " ") 0 ∧ Txt.split x " " ≠ [] ∧ (Txt.split x " ").length ≤ x.length + 1 := by
  obtain ⟨h1, h2, h3⟩ := spl_bnd [32] (TL.tl x) 0 []
  rw [← split_tl] at h1 h2 h3
  have hx : (TL.tl x).length = x.length := Array.length_toList
  rw [List.length_map] at h1
  refine ⟨⟨Nat.zero_le _, by omega, fun y hy => ?_⟩, fun e => h2 (by rw [e]; rfl), by omega⟩
  have := h3 (TL.tl y) (List.mem_map_of_mem hy)
  have hy2 : (TL.tl y).length = y.length := Array.length_toList
  rw [List.length_nil] at this
  omega
section
variable {C : CD} {X : Cx} {Γ : En} {O : Own} {Q : D → Own → Prop} {Cl bt : Addr} {j : Nat} {x : Str} {p pos : Pos} {e : Expr} {es : List Expr}
/-- Words(text) -/
theorem we_words (hI : EntI C.M j Cl (fun ds O Q E => (TWordsI C.M.K Cl bt) (ds ++ ([.int 0] : List D)) O Q E)) (hm : C.M.mg x = some (.ref Cl)) (hj : j + 2 ≤ C.k) (gx : x ∈ C.Gs) (he : ∀ env, starEach (e :: es) env = (false, eval e env) :: starEach es env) (hpl : ∀ env, (backTo pos (starEach es env)).any (·.1) = false)
    (h : WA C X (e :: es) Γ O fun ds O1 => ∃ v, ds = [v] ∧ StrQ C.M.K O1 v ∧ (v.isS = false → C.ED (badT bt 0) Γ O1) ∧ (∀ x, v = .str x → x.length ≤ 4000 ∧ ∀ a, ¬ O1.has a → Q (.ref a) ((a, .ins Cl (wsF (Txt.split x " ") 0)) :: O1))) : DL.WE C X (.Call (.Name x p) (e :: es) [] pos) Γ O Q := by
  obtain ⟨fi, mk, R⟩ := hI
  refine we_cl he hpl (wn_cls hm gx ⟨Cl, rfl, mk.kp, .mk fun ok σ H S k hk => h ok σ H S k fun vs H1 ds O1 ⟨v, e1, hn, h1, h2⟩ S1 l1 r1 => hk vs H1 ds O1 ?_ S1 l1 r1⟩)
  subst e1
  refine cb_mkE mk R hj fun a ha => ⟨a, v, rfl, hn.there, .here, fun z => ⟨a, _, O1, .here, h1 z⟩, fun x hx => ⟨(h2 x hx).1, fun O' u => ⟨rfl, ?_⟩⟩⟩
  cases u with
  | here => exact (h2 x hx).2 a ha
  | there u => exact absurd (List.mem_map.mpr ⟨_, u.at_.1.mem, rfl⟩) ha
end
theorem int_map_inj {ns ms : List Int} (h : ns.map D.int = ms.map D.int) : ns = ms := List.map_inj_right (fun _ _ e => D.int.inj e) |>.mp h
theorem ty_ints {ns : List Int} : AllTy (ns.map .int) := fun d hd => by
  obtain ⟨n, _, rfl⟩ := List.mem_map.mp hd
  exact ⟨_, rfl⟩
theorem spl_sum : ∀ (l acc : List Nat), ((TL.spl [32] 0 acc l).map (fun p => p.length + 1)).sum = acc.length + l.length + 1
  | [], acc => by
    rw [TL.spl_nil]
    simp
  | c :: r, acc => by
    show ((if TL.pre [32] (c :: r) = true then acc :: TL.spl [32] ([32].length - 1) [] r else TL.spl [32] 0 (acc ++ [c]) r).map _).sum = _
    split
    · have := spl_sum r []
      simp at this ⊢
      omega
    · have := spl_sum r (acc ++ [c])
      simp at this ⊢
      omega
theorem lens_len : ∀ {ws : List Str} {i : Nat} {ns : List Int}, lensOf ws i = .ok ns → ns.length = ws.length ∧ ∀ x ∈ ws, 1 ≤ x.length
  | [], _, _, h => by
    unfold lensOf at h
    cases h
    exact ⟨rfl, fun x hx => by cases hx⟩
  | x :: r, i, ns, h => by
    unfold lensOf at h
    split at h
    · rename_i n hn
      split at h
      · split at h
        · rename_i ms hm
          cases h
          obtain ⟨a, b⟩ := lens_len hm
          refine ⟨by simp [a], fun y hy => ?_⟩
          rcases List.mem_cons.mp hy with rfl | hy
          · unfold numIn at hn
            split at hn
            · cases hn
            · rename_i hc
              have : y ≠ "" := fun e => hc (.inl e)
              obtain ⟨c, l, hcl⟩ := str_head this
              show 1 ≤ y.cps.size
              rw [← Array.length_toList, hcl]
              simp
          · exact b y hy
        · cases h
      · cases h
    · cases h
theorem sum_half : ∀ {l : List Str}, (∀ x ∈ l, 1 ≤ x.length) → 2 * l.length ≤ ((l.map TL.tl).map (fun p => p.length + 1)).sum
  | [], _ => by simp
  | x :: r, h => by
    have a := h x List.mem_cons_self
    have b := sum_half (l := r) fun y hy => h y (List.mem_cons_of_mem _ hy)
    have hx2 : (TL.tl x).length = x.length := Array.length_toList
    simp only [List.map_cons, List.sum_cons, List.length_cons]
    omega
theorem lens_half {x : Str} {ns : List Int} {i : Nat} (h : lensOf (Txt.split x " ") i = .ok ns) : 2 * ns.length ≤ x.length + 1 := by
  obtain ⟨a, b⟩ := lens_len h
  have c := sum_half b
  rw [split_tl, spl_sum] at c
  have hx : (TL.tl x).length = x.length := Array.length_toList
  rw [List.length_nil] at c
  omega
/-- Cycle.read -/
def TReadC (K : PySem.W.Frag) (Cl bc tm bt : Addr) : TF := fun ds O Q E => ∃ v, ds = [.ref Cl, v] ∧ StrQ K O v ∧ (v.isS = false → E (badT bt 0) O) ∧ (∀ x, v = .str x → x.length ≤ 1900 ∧
  (∀ j, lensOf (Txt.split x " ") 0 = .error j → E (badT bt j) O) ∧ (∀ ns, lensOf (Txt.split x " ") 0 = .ok ns → (Good ns → Q (.ins Cl (cycF ns)) O) ∧ ∀ y, cycExn bc tm (ns.map .int) = some y → E y O))
end DL
namespace DL
open PySem PySem.Spec PyProof.Rows L2

/-! ### a classmethod called with keywords -/
def EntCK (M : Md) (j : Nat) (Cl : Addr) (m : Str) (ks : List Str) (T : TF) : Prop := ∃ mc pr g, ClX.CRead M.K Cl mc ∧ ClX.CMet M.K Cl mc m pr g ∧ DfK M j g ks T
section
variable {C : CD} {X : Cx} {Γ : En} {O : Own} {Q : D → Own → Prop} {e o : Expr} {kws : List Keyword} {pos p : Pos} {m : Str} {j : Nat} {T : TF} {Cl : Addr} {pl : Env → Sem Bool}
/-- o.m(k = v, ..), o a class, m a classmethod -/
theorem we_cmK {ks : List Str} (E : EntCK C.M j Cl m ks T) (hj : j + 1 ≤ C.k) (hb : MethNode o m p pos [] kws pl) (hall : ∀ env, (backToKw pos (keywordEach kws env)).all (·.1.isSome) = true) (hks : ∀ env, (backToKw pos (keywordEach kws env)).filterMap (·.1) = ks)
    (hpl : ∀ env, ((backTo pos (starEach [] env)).any (·.1) || (backToKw pos (keywordEach kws env)).any (·.1.isNone)) = false)
    (h : DL.WE C X o Γ O fun d O1 => d = .ref Cl ∧ WK C X kws Γ O1 fun zs O3 => zs.length = ks.length ∧ T ([.ref Cl] ++ zs) O3 Q fun x O' => C.ED x Γ O') : DL.WE C X (.Call (.Attribute o m p) [] kws pos) Γ O Q := .mk fun ok σ H S k hk pins s I => by
  obtain ⟨mc, pr, g, cr0, cm0, F⟩ := E
  refine PySem.W.methodCall_KW (pl := pl X.env) (thn (h ok σ H S (fun x H1 => x = .ref Cl ∧ ClX.CRead X.K Cl mc ∧ ClX.CMet X.K Cl mc m pr g ∧
      KW X kws σ H1 fun zs H3 => ∀ (pins : List (Addr × Obj)) (s : Shared) (us : List Value), Inv X pins σ H3 s → Vals zs us → codeAny (model X.prog X.w) X.A (.call (.ref g) ⟨[.ref Cl], ks.zip us⟩) (RF X pins σ k) s) (fun v H1 d O1 q1 S1 l1 r1 => ?_) pins s I) fun u s1 ⟨x, H1, I1, rx, ex, cr, cm, q⟩ => ?_) (hb _)
  · obtain ⟨rfl, q⟩ := q1
    refine ⟨rep_ref.mp r1, by rw [ok.K]; exact cr0, by rw [ok.K]; exact cm0, ?_⟩
    exact q ok σ H1 S1 _ fun zs H3 es O3 q3 S3 l3 r3 => fun pins s us I rv => (cb_dfk (ds := [.ref Cl]) (es := es) F hj q3.2) X ok σ H3 S3 (.ref Cl :: zs) (reps_cons.mpr ⟨_, _, rfl, rep_ref.mpr rfl, r3⟩) k (hk.le (l1.trans l3)) X.A pins s [.ref Cl] us (.inl rfl) I (.cons rfl rv) (by rw [← rv.length, reps_len r3]; exact q3.1)
  · subst ex
    obtain rfl : u = Value.ref Cl := rx
    refine ClX.getmethcm_ok I1 cr cm fun s2 I2 => ?_
    refine PySem.W.callWith_of (first := []) (P := PySem.W.MethP X.K _ g (.ref Cl)) (hpl _) (PySem.W.keeps_M cm.fi) (evalArgs_kw2_nil (hall _) (thn (q pos _ s2 I2) fun ws s3 ⟨zs, H3, I3, rz, q3⟩ => ⟨⟨ClX.pin_at I3, I3.kIn⟩, ?_⟩))
    rw [hks]
    refine wpAny_call (PySem.W.method_call (ClX.pin_at I3) (codeAny_mono (q3 pins s3 ws (ClX.unpin I3) rz) fun rs s' qq => ?_))
    match rs, qq with
    | .error e, qq => exact qq
    | .ok (.ret u), qq => exact qq
end
/-! ### enumerate over a list -/
theorem genJ_enL {K : PySem.W.Frag} {O1 : Own} {H1 : Hp} {t : Addr} {ds : List D} {Src : Own → Prop} (h : ∀ O H, OwnOk K O H → Le O1 H1 O H → Src O → ∃ xs, SqL K H t xs ∧ Reps K O.has H ds xs) : GenJ K (Ite K t) O1 H1 Src (enD ds) where
  go := fun O H i w l s hi => by
    obtain ⟨xs, hq, hr⟩ := h O H w l s
    rw [enD_len, ← reps_len hr] at hi
    exact ⟨xs, xs[i], hq, List.getElem?_eq_getElem hi⟩
  yld := fun O H i v H' w l s hi ⟨q, x, ev, hq, eH, hx⟩ => by
    subst ev; subst eH
    obtain ⟨xs, sq, hr⟩ := h O H w l s
    obtain ⟨e, he, re⟩ := reps_get' hr (hx xs sq)
    refine ⟨_, enD_at he, ?_, ownOk_new w hq, Le.new_obj O hq⟩
    simp only [Rep]
    exact ⟨q, _, rfl, w.nothas hq, upd_same, reps_cons.mpr ⟨_, _, rfl, rep_int.mpr rfl, reps_cons.mpr ⟨_, _, rfl, Rep.le (Le.new_obj O hq) re, reps_nil.mpr rfl⟩⟩⟩
  stop := fun O H i w l s hi => by
    obtain ⟨xs, sq, hr⟩ := h O H w l s
    rw [enD_len, ← reps_len hr] at hi
    exact ⟨xs, sq, hi⟩
section
variable {C : CD} {X : Cx} {Γ : En} {O : Own} {a : Expr} {p pos tpos : Pos} {tgs : List Expr} {n : Nat} {R : List D → (Own → Prop) → Own → Prop}
theorem wi_enL (hm : C.M.mg "enumerate" = none) (g : ("enumerate" : Str) ∈ C.Gs) (hs : ∀ env, starEach [a] env = [(false, eval a env)])
    (h : WA C X [a] Γ O fun ds O1 => ∃ xs, ds = [.lst xs] ∧ R (enD xs) (fun _ => True) O1) : WI C X (.Tuple tgs n tpos) (.Call (.Name "enumerate" p) [a] [] pos) Γ O R := .mk fun ok σ H S k hk =>
  iw_of (pi_enum (ok.gl _ g).1 (by rw [ok.mg]; exact hm) pa_aw (hs _)) (h ok σ H S _ fun vs H1 ds O1 q1 S1 l1 r1 => by
    obtain ⟨xs, rfl, q⟩ := q1
    obtain ⟨v, rfl, rv⟩ := reps1 r1
    obtain ⟨t, vs, rfl, hx, rx⟩ := (SqLs.lst (O := O1)).ok S1.own rv
    refine ⟨t, vs, rfl, by rw [ok.K]; exact hx, hk _ H1 _ _ O1 q S1 l1 ?_⟩
    rw [ok.K]
    refine genJ_enL fun O2 H2 w l2 _ => ?_
    obtain ⟨t', vs', e, hx', rx'⟩ := (SqLs.lst (O := O2)).ok w (Rep.le l2 rv)
    cases e
    exact ⟨vs', hx', rx'⟩)
end
/-! ### the text of a cycle -/
def strI (n : Int) : Str := Str.ofString (toString n)
def strN : D → Option D
  | .int n => some (.str (strI n))
  | _ => none
def linS (ns : List Int) : Str := Txt.join " " (ns.map strI)
theorem strN_map {ns : List Int} : (ns.map D.int).filterMap strN = (ns.map strI).map .str := by
  induction ns with
  | nil => rfl
  | cons n ns ih => simp only [List.map_cons, List.filterMap_cons, strN, ih]
theorem strI_len {n : Int} (h1 : 1 ≤ n) (h2 : n ≤ 60) : (strI n).length ≤ 2 := by
  have h : ∀ k : Fin 61, (strI (k.val : Int)).length ≤ 2 := by decide +kernel
  have := h ⟨n.toNat, by omega⟩
  rw [show ((n.toNat : Nat) : Int) = n by omega] at this
  exact this
theorem good_hi {ns : List Int} (g : Good ns) : ∀ n ∈ ns, n ≤ 60 := fun n hn => by
  have h := g.2.2.1
  have : n ≤ ns.sum := by
    have gen : ∀ l : List Int, (∀ x ∈ l, 1 ≤ x) → 0 ≤ l.sum ∧ ∀ x ∈ l, x ≤ l.sum := fun l => by
      induction l with
      | nil => exact fun _ => ⟨by simp, fun x hx => by cases hx⟩
      | cons a l ih =>
        intro h
        obtain ⟨p, q⟩ := ih fun x hx => h x (List.mem_cons_of_mem _ hx)
        have ha := h a List.mem_cons_self
        rw [List.sum_cons]
        refine ⟨by omega, fun x hx => ?_⟩
        rcases List.mem_cons.mp hx with rfl | hx
        · omega
        · have := q x hx
          omega
    exact (gen ns h).2 n hn
  have := g.2.2.2
  omega
theorem lin_sum {ns : List Int} (h : ∀ n ∈ ns, 1 ≤ n ∧ n ≤ 60) : ((ns.map strI).map (·.length)).sum ≤ 2 * ns.length := by
  induction ns with
  | nil => simp
  | cons n ns ih =>
    have a := strI_len (h n List.mem_cons_self).1 (h n List.mem_cons_self).2
    have b := ih fun m hm => h m (List.mem_cons_of_mem _ hm)
    simp only [List.map_cons, List.sum_cons, List.length_cons] at b ⊢
    omega
/-- Cycle.__eq__ -/
def TEqC (Cl : Addr) : TF := fun ds O Q _ => ∃ ns ms, ds = [.ins Cl (cycF ns), .ins Cl (cycF ms)] ∧ Good ns ∧ Good ms ∧ Q (.bl (decide (ns = ms))) O
/-! ### what a text tells -/
theorem one_dig : ∀ k : Fin 10, strI ((k.val : Nat) : Int) = ⟨#[k.val + 48]⟩ := by decide +kernel
theorem two_dig : ∀ a b : Fin 10, a.val = 0 ∨ strI (((a.val * 10 + b.val : Nat)) : Int) = ⟨#[a.val + 48, b.val + 48]⟩ := by decide +kernel
theorem fold_ge : ∀ (l : List Nat) (a : Nat), a ≤ l.foldl (fun acc c => acc * 10 + (c - 48)) a
  | [], a => Nat.le_refl _
  | c :: l, a => by
    have := fold_ge l (a * 10 + (c - 48))
    rw [List.foldl_cons]
    omega
theorem dig_str {x : Str} {n : Nat} (h : NumText.AllDigits x.cps.toList) (h0 : x.cps.toList.head? ≠ some 48) (h1 : x.cps.toList ≠ []) (hv : NumText.digitsVal x.cps.toList = n) (hn : n ≤ 60) : x = strI (n : Int) := by
  cases x with
  | mk a =>
    have ea : a = a.toList.toArray := by simp
    simp only at h h0 h1 hv
    generalize a.toList = cs at h h0 h1 hv ea
    subst ea
    match cs, h, h0, h1, hv with
    | [c], h, h0, _, hv =>
      have hc := h c (by simp)
      have e := one_dig ⟨c - 48, by omega⟩
      simp only [NumText.digitsVal, List.foldl_cons, List.foldl_nil] at hv
      have : n = c - 48 := by omega
      subst this
      rw [e]
      simp only
      rw [show c - 48 + 48 = c by omega]
    | [c, d], h, h0, _, hv =>
      have hc := h c (by simp)
      have hd := h d (by simp)
      have hc0 : c ≠ 48 := fun z => h0 (by rw [z]; rfl)
      simp only [NumText.digitsVal, List.foldl_cons, List.foldl_nil] at hv
      rcases two_dig ⟨c - 48, by omega⟩ ⟨d - 48, by omega⟩ with z | e
      · simp only at z
        omega
      · have : n = (c - 48) * 10 + (d - 48) := by omega
        subst this
        rw [e]
        simp only
        rw [show c - 48 + 48 = c by omega, show d - 48 + 48 = d by omega]
    | c :: d :: e :: r, h, h0, _, hv =>
      exfalso
      have hc := h c (by simp)
      have hc0 : c ≠ 48 := fun z => h0 (by rw [z]; rfl)
      simp only [NumText.digitsVal, List.foldl_cons] at hv
      have := fold_ge r (((0 * 10 + (c - 48)) * 10 + (d - 48)) * 10 + (e - 48))
      omega
theorem strI_num : ∀ k : Fin 61, numIn (strI ((k.val : Nat) : Int)) = some ((k.val : Nat) : Int) := by decide +kernel
theorem good_strI {x : Str} {n : Int} (g : goodW x n) : x = strI n := by
  obtain ⟨h, h1, h2⟩ := g
  unfold numIn at h
  split at h
  · cases h
  · rename_i hc
    split at h
    · rename_i h3
      have hx : x ≠ "" := fun z => hc (.inl z)
      have hl : x.length ≤ 60 := by
        have : ¬ 60 < x.length := fun z => hc (.inr (.inl z))
        omega
      have hf : figOk x = true := by
        cases e : figOk x with
        | true => rfl
        | false => exact absurd (.inr (.inr e)) hc
      obtain ⟨c, l, hcl⟩ := str_head hx
      have hd := intText_digits (figOk_all hf) (by rw [hcl]; simp) (by omega)
      rw [hd] at h
      cases h
      refine (dig_str (n := NumText.digitsVal x.cps.toList) (figOk_all hf) ?_ (by rw [hcl]; simp) rfl (by omega)).trans rfl
      rcases h3 with h3 | h3
      · subst h3
        exact absurd h1 (by decide +kernel)
      · exact h3
    · cases h
theorem strI_good {n : Int} (h1 : 1 ≤ n) (h2 : n ≤ 60) : goodW (strI n) n := by
  have := strI_num ⟨n.toNat, by omega⟩
  rw [show ((n.toNat : Nat) : Int) = n by omega] at this
  exact ⟨this, h1, h2⟩
def w60 : List Str := (List.range 60).map fun (i : Nat) => strI (1 + (i : Int))
theorem w60_iff {x : Str} : x ∈ w60 ↔ ∃ n, goodW x n := by
  unfold w60
  rw [List.mem_map]
  constructor
  · rintro ⟨i, hi, rfl⟩
    have := List.mem_range.mp hi
    exact ⟨_, strI_good (by omega) (by omega)⟩
  · rintro ⟨n, g⟩
    have e := good_strI g
    obtain ⟨_, h1, h2⟩ := g
    exact ⟨(n - 1).toNat, List.mem_range.mpr (by omega), by rw [e, show (1 : Int) + ((n - 1).toNat : Nat) = n from by omega]⟩
def dueX (x : Str) : D := match lensOf (Txt.split x " ") 0 with
  | .error j => .tup [.str "text", .int 0, .int (j : Int)]
  | .ok ns => if 12 < ns.length then .tup [.str "many", .str "blocks", .int 12] else if 60 < ns.sum then .tup [.str "many", .str "days", .int 60] else .lst [.lst (ns.map .int)]
def TDueX : TF := fun ds O Q _ => ∃ x, ds = [.str x] ∧ x.length ≤ 1900 ∧ Q (dueX x) O
theorem rng_strN : (rngD 1 60).filterMap strN = w60.map .str := by
  unfold rngD w60
  have gen : ∀ l : List Nat, (l.map fun (i : Nat) => D.int (1 + (i : Int))).filterMap strN = (l.map fun (i : Nat) => strI (1 + (i : Int))).map .str := fun l => by
    induction l with
    | nil => rfl
    | cons n ns ih => simp only [List.map_cons, List.filterMap_cons, strN, ih]
  exact gen _
theorem due_err {x : Str} {w1 r : List Str} {w : Str} {ns : List Int} (e : Txt.split x " " = w1 ++ w :: r) (g : GoodWs w1 ns) (h : ¬ w ∈ w60) : dueX x = .tup [.str "text", .int 0, .int (w1.length : Int)] := by
  unfold dueX
  rw [e, lens_good g, lens_bad fun n q => h (w60_iff.mpr ⟨n, q⟩)]
  simp
theorem due_ok {x : Str} {ns : List Int} (g : GoodWs (Txt.split x " ") ns) : lensOf (Txt.split x " ") 0 = .ok ns := by
  have z := lens_good (ws2 := []) g (i := 0)
  rw [List.append_nil] at z
  rw [z]
  simp [lensOf]
theorem goodW.int {x : Str} {n : Int} (g : goodW x n) : PySem.intText? x = some n := by
  obtain ⟨h, _⟩ := g
  unfold numIn at h
  split at h
  · cases h
  · split at h
    · exact h
    · cases h
/-! ### a text many times -/
theorem op_mulS {X : Cx} : OpR X (binaryOp .Mult) (fun x y H Q => ∃ z n, x = .str z ∧ y = .int n ∧ MulOk z n ∧ Q (.str (Txt.mul z n)) H) := by
  intro pins s σ H x y v u Q I rx ry ⟨z, n, ex, ey, hm, q⟩
  subst ex
  subst ey
  obtain ⟨t, rfl⟩ := rx
  obtain ⟨t2, rfl⟩ := ry
  exact SB.mul hm fun t' k => ⟨.str (Txt.mul z n), H, I.tok k, ⟨t', rfl⟩, q⟩
theorem ow_mulS {C : CD} {X : Cx} {Γ : En} {O : Own} {Q : D → Own → Prop} {z : Str} {n : Int} (hm : MulOk z n) (q : Q (.str (Txt.mul z n)) O) : OW C X (binaryOp .Mult) (.str z) (.int n) Γ O Q := ow_of op_mulS fun σ H v w S rx ry k hk => by
  rw [rep_str] at rx
  rw [rep_int] at ry
  subst rx
  subst ry
  exact ⟨z, n, rfl, rfl, hm, hk.at q S (rep_str.mpr rfl)⟩
/-! ### the length of a joined text -/
theorem split_sum (x : Str) : ((Txt.split x " ").map (fun w => w.length + 1)).sum = x.length + 1 := by
  have h := spl_sum (TL.tl x) []
  rw [← split_tl, List.map_map] at h
  have hx : (TL.tl x).length = x.length := Array.length_toList
  rw [hx, List.length_nil] at h
  rw [← Nat.zero_add x.length, ← h]
  congr 1
/-- a bent text -/
def TBent : TF := fun ds O Q _ => ∃ p b x O0, ds = [.ref p, .str x] ∧ x.length ≤ 950 ∧ O = (p, .box (Pen b)) :: O0 ∧ b < 2 ^ 19 ∧ ∀ y c, y.length ≤ 2 * x.length + 64 → c ≤ 3 → Q (.str y) ((p, .box (Pen (b + c))) :: O0)
theorem app_len (a b : Str) : (a ++ b).length = a.length + b.length := by
  show (a.cps ++ b.cps).size = _
  rw [Array.size_append]
  rfl
theorem join_len0 : ∀ (ys : List Str), ys ≠ [] → (Str.join " " ys).length + 1 = (ys.map (fun w => w.length + 1)).sum
  | [], h => absurd rfl h
  | [y], _ => by simp [Str.join]
  | y :: z :: r, _ => by
    have ih := join_len0 (z :: r) (by simp)
    have e : Str.join " " (y :: z :: r) = y ++ " " ++ Str.join " " (z :: r) := rfl
    rw [e, app_len, app_len, List.map_cons, List.sum_cons, ← ih]
    have e1 : ((" " : Str)).length = 1 := rfl
    rw [e1]
    omega
theorem join_len (ys : List Str) (h : ys ≠ []) : (Txt.join " " ys).length + 1 = (ys.map (fun w => w.length + 1)).sum := by
  rw [TL.join_eq]
  exact join_len0 ys h
theorem sum_part {l1 l2 : List Str} (f : Str → Nat) : ((l1 ++ l2).map f).sum = (l1.map f).sum + (l2.map f).sum := by
  rw [List.map_append, List.sum_append]
theorem sum_take (l : List Str) (n : Nat) : ((l.take n).map (fun w : Str => w.length + 1)).sum ≤ (l.map (fun w : Str => w.length + 1)).sum := by
  have := sum_part (l1 := l.take n) (l2 := l.drop n) (fun w : Str => w.length + 1)
  rw [List.take_append_drop] at this
  omega
theorem sum_drop (l : List Str) (n : Nat) : ((l.drop n).map (fun w : Str => w.length + 1)).sum ≤ (l.map (fun w : Str => w.length + 1)).sum := by
  have := sum_part (l1 := l.take n) (l2 := l.drop n) (fun w : Str => w.length + 1)
  rw [List.take_append_drop] at this
  omega
theorem join_nil : (Txt.join " " ([] : List Str)).length = 0 := rfl
theorem bent_len {x : Str} {a b : Nat} {os : List Str} (ho : (os.map (fun w : Str => w.length + 1)).sum ≤ 62) : (Txt.join " " ((Txt.split x " ").take a ++ os ++ (Txt.split x " ").drop b)).length ≤ 2 * x.length + 64 := by
  have h := split_sum x
  have h1 := sum_take (Txt.split x " ") a
  have h2 := sum_drop (Txt.split x " ") b
  by_cases e : (Txt.split x " ").take a ++ os ++ (Txt.split x " ").drop b = []
  · rw [e, join_nil]
    omega
  · have h3 := join_len _ e
    rw [sum_part, sum_part] at h3
    omega
theorem cutS_to {ws : List Str} {a : Nat} : cutD (ws.map D.str) none (some (a : Int)) = (ws.take a).map .str := by
  unfold cutD
  rw [List.length_map, HT.sIx_none, HT.sIx_nat, List.drop_zero, Nat.sub_zero, ← List.map_take]
  by_cases h : a ≤ ws.length
  · rw [Nat.min_eq_left h]
  · rw [Nat.min_eq_right (by omega), List.take_length, List.take_of_length_le (by omega)]
theorem cutS_from {ws : List Str} {a : Nat} : cutD (ws.map D.str) (some (a : Int)) none = (ws.drop a).map .str := by
  unfold cutD
  rw [List.length_map, HT.sIx_none, HT.sIx_nat, ← List.map_drop, ← List.map_take]
  by_cases h : a ≤ ws.length
  · rw [Nat.min_eq_left h, List.take_of_length_le (by rw [List.length_drop]; omega)]
  · rw [Nat.min_eq_right (by omega), List.drop_length, List.drop_of_length_le (by omega)]
    simp
theorem mul9 : MulOk "9" 61 := ⟨by decide +kernel, fun _ _ => by decide +kernel, fun _ _ => by decide +kernel⟩
def oddS : List Str := ["", "0", "1", "7", "60", "61", "07", "-1", "+1", "1.0", "7\n", "7 7", "x", "1_0", Txt.mul "9" 61, "30"]
theorem odd_len : ∀ o ∈ oddS, o.length ≤ 61 := by decide +kernel
theorem sum_one (ys : List Str) : (ys.map (fun x => x.length)).sum + ys.length * ((" " : Str)).length = (ys.map fun w : Str => w.length + 1).sum := by
  have e1 : ((" " : Str)).length = 1 := rfl
  rw [e1]
  induction ys with
  | nil => rfl
  | cons y ys ih =>
    simp only [List.map_cons, List.sum_cons, List.length_cons] at ih ⊢
    omega
theorem bent_sum {x : Str} {a b : Nat} {os : List Str} (hx : x.length ≤ 950) (ho : (os.map (fun w : Str => w.length + 1)).sum ≤ 62) : ((((Txt.split x " ").take a ++ os ++ (Txt.split x " ").drop b)).map (fun x => x.length)).sum + ((Txt.split x " ").take a ++ os ++ (Txt.split x " ").drop b).length * ((" " : Str)).length ≤ 16777216 := by
  rw [sum_one, sum_part, sum_part]
  have h := split_sum x
  have h1 := sum_take (Txt.split x " ") a
  have h2 := sum_drop (Txt.split x " ") b
  omega
theorem bent_cnt {x : Str} {a b : Nat} (hx : x.length ≤ 950) : (((Txt.split x " ").take a).map D.str).length + (((Txt.split x " ").drop b).map D.str).length ≤ sizeLine := by
  obtain ⟨_, _, wl⟩ := split_ok (x := x) (by omega)
  rw [List.length_map, List.length_map, List.length_take, List.length_drop]
  refine Nat.le_trans (m := 4000) ?_ (by decide)
  omega
theorem split_lin {ns : List Int} (hne : ns ≠ []) : Txt.split (linS ns) " " = ns.map strI := by
  refine TL.map_tl_inj ?_
  rw [split_tl]
  unfold linS
  rw [TL.join_eq, TL.tl_join]
  have e : TL.tl (" " : Str) = [32] := by decide +kernel
  rw [e]
  refine TL.spl_join (by simpa using hne) fun p hp => ?_
  rw [List.map_map] at hp
  obtain ⟨n, _, rfl⟩ := List.mem_map.mp hp
  exact no32_int n
theorem good_lin {ns : List Int} (h : ∀ n ∈ ns, 1 ≤ n ∧ n ≤ 60) : GoodWs (ns.map strI) ns := by
  induction ns with
  | nil => exact .nil
  | cons n ns ih => exact .cons (strI_good (h n List.mem_cons_self).1 (h n List.mem_cons_self).2) (ih fun m hm => h m (List.mem_cons_of_mem _ hm))
theorem lens_lin {ns : List Int} (g : Good ns) : lensOf (Txt.split (linS ns) " ") 0 = .ok ns := by
  refine due_ok (x := linS ns) ?_
  rw [split_lin g.1]
  exact good_lin fun n hn => ⟨g.2.2.1 n hn, good_hi g n hn⟩
theorem lin_len {ns : List Int} (g : Good ns) : (linS ns).length ≤ 36 := by
  have h := join_len (ns.map strI) (by simpa using g.1)
  have h2 := sum_one (ns.map strI)
  have h3 := lin_sum (ns := ns) fun n hn => ⟨g.2.2.1 n hn, good_hi g n hn⟩
  have h4 := g.2.1
  have e1 : ((" " : Str)).length = 1 := rfl
  rw [← h2, e1, List.length_map] at h
  unfold linS
  omega
end DL
namespace DL
open PySem PySem.Spec PyProof.Rows L2

/-! ### what is told of a text of lengths -/
theorem lens_in : ∀ {ws : List Str} {i : Nat} {ns : List Int}, lensOf ws i = .ok ns → ∀ n ∈ ns, 1 ≤ n ∧ n ≤ 60
  | [], _, _, h => by
    unfold lensOf at h
    cases h
    exact fun n hn => by cases hn
  | x :: r, i, ns, h => by
    unfold lensOf at h
    split at h
    · rename_i n hn
      split at h
      · rename_i hb
        split at h
        · rename_i ms hm
          cases h
          intro m hmm
          rcases List.mem_cons.mp hmm with rfl | hmm
          · exact hb
          · exact lens_in hm m hmm
        · cases h
      · cases h
    · cases h
theorem due_text {y : Str} {j : Nat} (h : lensOf (Txt.split y " ") 0 = .error j) : dueX y = .tup [.str "text", .int 0, .int (j : Int)] := by
  unfold dueX
  rw [h]
theorem due_good {y : Str} {ns : List Int} (h : lensOf (Txt.split y " ") 0 = .ok ns) (g : Good ns) : dueX y = .lst [.lst (ns.map .int)] := by
  unfold dueX
  rw [h]
  have h1 := g.2.1
  have h2 := g.2.2.2
  dsimp only
  rw [if_neg (by omega), if_neg (by omega)]
theorem lens_exn {y : Str} {ns : List Int} {bc tm : Addr} {e : Exn} (hy : y.length ≤ 4000) (h : lensOf (Txt.split y " ") 0 = .ok ns) (he : cycExn bc tm (ns.map .int) = some e) :
    ∃ w : Str, ∃ m : Int, e = ⟨tm, [("most", .int m), ("what", .str w)]⟩ ∧ dueX y = .tup [.str "many", .str w, .int m] ∧ PyData.strOk w = true := by
  have hall : ∀ d ∈ ns.map D.int, d.inB 1 60 = true := fun d hd => by
    obtain ⟨n, hn, rfl⟩ := List.mem_map.mp hd
    exact decide_eq_true (lens_in h n hn)
  have hne : ns ≠ [] := by
    intro e
    subst e
    have := (lens_len h).1
    have h2 := (split_ok hy).2.1
    rw [List.length_nil] at this
    exact h2 (List.length_eq_zero_iff.mp this.symm)
  unfold cycExn at he
  rw [firstBad_none hall, vals_sum, List.length_map] at he
  unfold dueX
  rw [h]
  dsimp only at he ⊢
  rw [if_neg (by simpa using hne)] at he
  split at he
  · rename_i h1
    cases he
    rw [if_pos h1]
    exact ⟨_, _, rfl, rfl, strOk_ofString _⟩
  · rename_i h1
    rw [if_neg h1]
    split at he
    · rename_i h2
      cases he
      rw [if_pos h2]
      exact ⟨_, _, rfl, rfl, strOk_ofString _⟩
    · cases he
theorem shp_tii {a : Str} {i j : Int} (h : PyData.strOk a = true) : D.shp (.tup [.str a, .int i, .int j]) = true := by
  simp [D.shp, D.isPy, D.arePy, D.py, D.pys, SeqAt.shaped, PyData.canLay0, PyData.canLayAll0, PyData.depth, PyData.depthAll, h]
theorem shp_tsi {a b : Str} {j : Int} (h : PyData.strOk a = true) (h2 : PyData.strOk b = true) : D.shp (.tup [.str a, .str b, .int j]) = true := by
  simp [D.shp, D.isPy, D.arePy, D.py, D.pys, SeqAt.shaped, PyData.canLay0, PyData.canLayAll0, PyData.depth, PyData.depthAll, h, h2]
theorem lens_empty : lensOf (Txt.split "" " ") 0 = .error 0 := by
  have e : Txt.split "" " " = ([""] : List Str) := by decide +kernel
  have e2 : numIn "" = none := by decide +kernel
  rw [e, lensOf, e2]
end DL
namespace DL
open PySem PySem.Spec PyProof.Rows L2
/-- what a look at a class finds, compared -/
def cfDec : (a b : PySem.W.CFound) → Decidable (a = b)
  | .val v, .val w => match decEq v w with
    | .isTrue e => .isTrue (by rw [e])
    | .isFalse n => .isFalse fun e => n (by cases e; rfl)
  | .get a b c d, .get a' b' c' d' => match decEq (a, b, c, d) (a', b', c', d') with
    | .isTrue e => .isTrue (by cases e; rfl)
    | .isFalse n => .isFalse fun e => n (by cases e; rfl)
  | .val _, .get .. => .isFalse fun e => by cases e
  | .get .., .val _ => .isFalse fun e => by cases e
instance : DecidableEq PySem.W.CFound := cfDec

/-! ### the head's facts by one run -/
/-- a def as the text has it, where it stands, the names that it closes over -/
structure Fq where
  at_ : PySem.W.Frag → Addr
  name : Str
  qual : Str
  st : Stmt
  clo : List Str
  dfl : List V
abbrev FnX : Type := Option (Str × Str × Arguments × FuncBody × Scope × Addr × List Str × Addr)
def fnX (K : PySem.W.Frag) (a : Addr) : FnX := match K.lookup a with
  | some ⟨_, _, .func fd, _⟩ => some (fd.name, fd.qualname, fd.params, fd.body, fd.scope, fd.globals, fd.closure.map (·.1), fd.builtins)
  | _ => none
def Fq.val (d : Fq) : FnX := some (d.name, d.qual, defArgs d.st, .stmts (defBody d.st), defScope d.st, mainGlobals, d.clo, builtinsNs)
/-- the code object of the def at a -/
def codeA (K : PySem.W.Frag) (a : Addr) : Addr := match K.lookup a with
  | some ⟨_, _, .func fd, _⟩ => (match fd.code with
    | .ref c => c
    | _ => 0)
  | _ => 0
def tabA (K : PySem.W.Frag) (c : Addr) : Addr := match K.lookup c with
  | some ⟨_, _, .fields vs, _⟩ => (match (vs[11]? : Option Value) with
    | some (.ref P) => P
    | _ => 0)
  | _ => 0
/-- the one cell that the def at a closes over -/
def cloA (K : PySem.W.Frag) (a : Addr) : Addr := match K.lookup a with
  | some ⟨_, _, .func fd, _⟩ => (match fd.closure with
    | [(_, c)] => c
    | _ => 0)
  | _ => 0
def Fq.ok (K : PySem.W.Frag) (d : Fq) : Bool := PySem.W.keepIn K (.ref (d.at_ K)) && (match K.lookup (d.at_ K) with
  | some ⟨_, _, .func fd, _⟩ => PySem.W.codeIn K fd.code d.qual && He.dflB K fd.defaults d.dfl
  | _ => false)
theorem Fq.funD {K : PySem.W.Frag} {d : Fq} (e : fnX K (d.at_ K) = d.val) (c : d.ok K = true) (hc : d.clo = []) : ∃ fd, FunD K d.name d.qual (defArgs d.st) (defBody d.st) (defScope d.st) d.dfl [] (d.at_ K) fd := by
  obtain ⟨kp, c2⟩ := Bool.and_eq_true_iff.mp c
  unfold fnX at e
  cases q : K.lookup (d.at_ K) with
  | none =>
    rw [q] at c2
    cases c2
  | some o =>
    obtain ⟨oc, od, dt, osl⟩ := o
    rw [q] at c2 e
    cases dt with
    | func fd =>
      obtain ⟨n1, n2, n3, n4, n5, n6, n7, n8, n9, n10, n11, n12, n13, n14, n15⟩ := fd
      have e2 : (some (n1, n2, n3, n4, n5, n6, n7.map (·.1), n15) : FnX) = some (d.name, d.qual, defArgs d.st, .stmts (defBody d.st), defScope d.st, mainGlobals, d.clo, builtinsNs) := e
      simp only [Option.some.injEq, Prod.mk.injEq] at e2
      obtain ⟨h1, h2, h3, h4, h5, h6, h7, h9⟩ := e2
      rw [hc] at h7
      have h7 := List.map_eq_nil_iff.mp h7
      subst h1 h2 h3 h4 h5 h6 h7 h9
      obtain ⟨c3, c4⟩ := Bool.and_eq_true_iff.mp (show (PySem.W.codeIn K n13 d.qual && He.dflB K n8 d.dfl) = true from c2)
      exact ⟨_, ⟨oc, od, n8, n9, n10, n11, n12, n13, n14, osl, rfl, q, c3, He.dflB_ok c4, .inl rfl⟩, kp⟩
    | _ => cases c2
theorem Fq.fun {K : PySem.W.Frag} {d : Fq} (e : fnX K (d.at_ K) = d.val) (c : d.ok K = true) (hc : d.clo = []) (hd : d.dfl = []) : ∃ fd, Fun K d.name d.qual d.st (d.at_ K) fd := by
  obtain ⟨fd, F⟩ := Fq.funD e c hc
  rw [hd] at F
  obtain ⟨oc, od, dV, kV, doc, pm, an, cdv, ct, osl, rfl, lk, hcd, hD, _⟩ := F.ex
  rcases hD with ⟨_, rfl⟩ | ⟨h, _⟩
  · exact ⟨_, ⟨oc, od, kV, doc, pm, an, cdv, ct, osl, rfl, lk, hcd⟩, F.kp⟩
  · exact absurd rfl h
theorem codeA_eq {K : PySem.W.Frag} {x qual : Str} {st : Stmt} {f : Addr} {fd : FuncData} (F : Fun K x qual st f fd) : ∀ oc od fd osl, K.lookup f = some ⟨oc, od, .func fd, osl⟩ → fd.code = .ref (codeA K f) := by
  intro oc od fd' osl h
  obtain ⟨oc', od', kV, doc, pm, an, cdv, ct, osl', rfl, lk, hcd⟩ := F.ex
  rw [lk] at h
  cases h
  show cdv = _
  unfold PySem.W.codeIn at hcd
  cases cdv with
  | ref c =>
    unfold codeA
    rw [lk]
  | _ => cases hcd
theorem tabA_in {K : PySem.W.Frag} {c P : Addr} (h : PySem.W.codeHdIn K c P = true) : tabA K c = P := by
  unfold PySem.W.codeHdIn at h
  unfold tabA
  split at h
  · rename_i vs _ hk
    rw [hk]
    simp only [Bool.and_eq_true] at h
    obtain ⟨⟨⟨⟨⟨e1, _⟩, _⟩, _⟩, _⟩, _⟩ := h
    split at e1
    · rename_i P' h11
      dsimp only
      rw [h11]
      exact beq_iff_eq.mp e1
    · cases e1
  · cases h
/-! exceptions -/
/-- the text of an exception's __init__ -/
def xiB (file : Str) (K : PySem.W.Frag) (f cl : Addr) (qual : Str) : Bool := match K.lookup f with
  | some ⟨_, _, .func fd, _⟩ => decide (fd.closure = [(("__class__" : Str), cl)]) && (match fd.code with
    | .ref c => PySem.W.codeIn K (.ref c) qual && (match K.lookup c with
      | some ⟨_, _, .fields vs, _⟩ => (match (vs[2]? : Option Value) with
        | some (.str z _) => file == z
        | _ => false)
      | _ => false)
    | _ => false)
  | _ => false
def XiE (P : Program) (K : PySem.W.Frag) (qual : Str) (st : Stmt) (f cc : Addr) (fd : FuncData) : Prop :=
  ∃ (oc : Value) (od : Option Addr) (kV doc pm : Value) (an : Option Addr) (cda : Addr) (ct : Value) (osl : Array (Option Value)) (ccl : Value) (cdd : Option Addr) (ccs : Array (Option Value)) (vs : Array Value) (file : Str) (tf : Tok),
    fd = PySem.W.ksFn "__init__" qual (defArgs st) (defBody st) (defScope st) .none kV doc pm an (.ref cda) ct cc ∧ K.lookup f = some ⟨oc, od, .func fd, osl⟩ ∧ PySem.W.codeIn K (.ref cda) qual = true ∧
      K.lookup cda = some ⟨ccl, cdd, .fields vs, ccs⟩ ∧ vs[2]? = some (.str file tf) ∧ ((P.main.file : Str) == file) = true
theorem Fq.xi {P : Program} {K : PySem.W.Frag} {d : Fq} {cl : Addr} (e : fnX K (d.at_ K) = d.val) (c : d.ok K = true) (hd : d.dfl = []) (b : xiB P.main.file K (d.at_ K) cl d.qual = true) (hn : d.name = "__init__") : ∃ fd, XiE P K d.qual d.st (d.at_ K) cl fd := by
  obtain ⟨_, c2⟩ := Bool.and_eq_true_iff.mp c
  unfold fnX at e
  unfold xiB at b
  cases q : K.lookup (d.at_ K) with
  | none =>
    rw [q] at b
    cases b
  | some o =>
    obtain ⟨oc, od, dt, osl⟩ := o
    rw [q] at b e c2
    cases dt with
    | func fd =>
      obtain ⟨n1, n2, n3, n4, n5, n6, n7, n8, n9, n10, n11, n12, n13, n14, n15⟩ := fd
      have e2 : (some (n1, n2, n3, n4, n5, n6, n7.map (·.1), n15) : FnX) = some (d.name, d.qual, defArgs d.st, .stmts (defBody d.st), defScope d.st, mainGlobals, d.clo, builtinsNs) := e
      simp only [Option.some.injEq, Prod.mk.injEq] at e2
      obtain ⟨h1, h2, h3, h4, h5, h6, _, h9⟩ := e2
      have h8 : n8 = .none := by
        obtain ⟨_, c4⟩ := Bool.and_eq_true_iff.mp (show (PySem.W.codeIn K n13 d.qual && He.dflB K n8 d.dfl) = true from c2)
        rw [hd] at c4
        rcases He.dflB_ok c4 with ⟨_, h⟩ | ⟨h, _⟩
        · exact h
        · exact absurd rfl h
      rw [hn] at h1
      subst h1 h2 h3 h4 h5 h6 h8 h9
      dsimp only at b
      obtain ⟨b1, b2⟩ := Bool.and_eq_true_iff.mp b
      have h7 : n7 = [(("__class__" : Str), cl)] := of_decide_eq_true b1
      subst h7
      cases n13 with
      | ref c =>
        dsimp only at b2
        obtain ⟨b3, b4⟩ := Bool.and_eq_true_iff.mp b2
        cases q2 : K.lookup c with
        | none =>
          rw [q2] at b4
          cases b4
        | some o2 =>
          obtain ⟨c1, c2, dt2, c4⟩ := o2
          rw [q2] at b4
          cases dt2 with
          | fields vs =>
            dsimp only at b4
            cases q3 : (vs[2]? : Option Value) with
            | none =>
              rw [q3] at b4
              cases b4
            | some v =>
              rw [q3] at b4
              cases v with
              | str z t => exact ⟨_, oc, od, n9, n10, n11, n12, c, n14, osl, c1, c2, c4, vs, z, t, rfl, q, b3, q2, q3, b4⟩
              | _ => cases b4
          | _ => cases b4
      | _ => cases b2
    | _ => cases b
/-- a cell that holds the class -/
def cellB (K : PySem.W.Frag) (cl A : Addr) : Bool := match K.lookup cl with
  | some ⟨_, _, .cell (some (.ref a)), _⟩ => decide (a = A)
  | _ => false
theorem cellB_ok {K : PySem.W.Frag} {cl A : Addr} (h : cellB K cl A = true) : ∃ c1 c2 c3, K.lookup cl = some ⟨c1, c2, .cell (some (.ref A)), c3⟩ := by
  unfold cellB at h
  split at h
  · rename_i c1 c2 a c3 q
    rw [of_decide_eq_true h] at q
    exact ⟨c1, c2, c3, q⟩
  · cases h
/-- a class over ValueError -/
def oexB (K : PySem.W.Frag) (C : Addr) : Bool := match K.lookup C with
  | some ⟨.type t, _, .cls cd, sl⟩ => (match cd.mro, sl.toList with
    | .ref C' :: bm, [_, _, _, _, some (.builtin n), _] => decide (t = "type") && (decide (C' = C) && (decide (n = "ValueError.__new__") && (!cd.hasDel && (cd.hasDict && PySem.HandSPX.refsVE bm))))
    | _, _ => false)
  | _ => false
theorem oexB_ok {K : PySem.W.Frag} {C : Addr} (h : oexB K C = true) : ∃ nm q N bs bm sn sub ab col dd k0 k1 k2 k3 k5, K.lookup C = some (excClassObj nm q C N bs bm true sn sub ab col dd k0 k1 k2 k3 k5 "ValueError.__new__") ∧ PySem.HandSPX.refsVE bm = true := by
  unfold oexB at h
  split at h
  · rename_i t dd cd sl ho
    split at h
    · rename_i C' bm k0 k1 k2 k3 n k5 hm hs
      simp only [Bool.and_eq_true, decide_eq_true_eq, Bool.not_eq_true'] at h
      obtain ⟨rfl, rfl, rfl, hdel, hdict, ht⟩ := h
      obtain ⟨nm, bs, mro, ns, qn, hd, sn, sub, ab, col, del⟩ := cd
      dsimp only at hm hdel hdict
      subst hm hdel hdict
      have hsl : sl = #[k0, k1, k2, k3, some (.builtin "ValueError.__new__"), k5] := by
        obtain ⟨l⟩ := sl
        simp only at hs
        rw [hs]
      subst hsl
      exact ⟨nm, qn, ns, bs, bm, sn, sub, ab, col, dd, k0, k1, k2, k3, k5, ho, ht⟩
    · cases h
  · cases h
/-! values of the module -/
def intB (K : PySem.W.Frag) (x : Str) (i : Int) : Bool := match PySem.W.nsIn K mainGlobals x with
  | some (some (.int j _)) => decide (j = i)
  | _ => false
theorem intB_ok {K : PySem.W.Frag} {h : Heap} {mg : Str → Option Value} (X : K.In h) (G : h.Ns mainGlobals mg) {x : Str} {i : Int} (c : intB K x i = true) : ∃ t, mg x = some (.int i t) := He.int_ok X G (x := x) (i := i) c
def strB (K : PySem.W.Frag) (x z : Str) : Bool := match PySem.W.nsIn K mainGlobals x with
  | some (some (.str y _)) => decide (y = z)
  | _ => false
theorem strB_ok {K : PySem.W.Frag} {h : Heap} {mg : Str → Option Value} (X : K.In h) (G : h.Ns mainGlobals mg) {x z : Str} (c : strB K x z = true) : ∃ t, mg x = some (.str z t) := He.str_ok X G (x := x) (z := z) c
/-- the first item of a record -/
def recHd (K : PySem.W.Frag) (p : Addr) (T : String) : Addr := match PySem.W.recIn K p T with
  | some (.ref f :: _) => f
  | _ => 0
def recTl (K : PySem.W.Frag) (p : Addr) (T : String) : List Value := match PySem.W.recIn K p T with
  | some (_ :: r) => r
  | _ => []
/-! ### the Hook -/
structure Hd where
  fx : PySem.W.Frag → List (List Bool)
  fn : List (List Fq)
  tb : PySem.W.Frag → List Addr
abbrev AlH : Type := Bool × List (List FnX)
def Hd.obs (Z : Hd) (g : Addr → Option Obj) (K : PySem.W.Frag) : AlH :=
  ((Z.fx K).all (fun l => l.all id) && (Z.fn.all (fun l => l.all fun d => d.ok K) && (Z.tb K).all fun P => match g P with
    | some o => He.emptyTab o
    | none => false), Z.fn.map fun l => l.map fun d => fnX K (d.at_ K))
def Hd.val (Z : Hd) : AlH := (true, Z.fn.map fun l => l.map Fq.val)
structure Hd.Says (Z : Hd) (K : PySem.W.Frag) : Prop where
  fx : ∀ l ∈ Z.fx K, ∀ b ∈ l, b = true
  ok : ∀ l ∈ Z.fn, ∀ d ∈ l, d.ok K = true
  fn : (Z.fn.map fun l => l.map fun d => fnX K (d.at_ K)) = Z.fn.map fun l => l.map Fq.val
def Hd.frag (g : Addr → Option Obj) (n : Nat) : PySem.W.Frag := He.frT g (List.range n)
theorem Hd.says_of {Z : Hd} {h : Heap} {n : Nat} (e : Z.obs h.get? (Hd.frag h.get? n) = Z.val) : Z.Says (Hd.frag h.get? n) ∧ ∀ P ∈ Z.tb (Hd.frag h.get? n), h.get? P = some { cls := .none, data := .fields #[] } ∧ (Hd.frag h.get? n).lookup P = none := by
  have e1 := congrArg (fun z : AlH => z.1) e
  have e2 : (Z.fn.map fun l => l.map fun d => fnX (Hd.frag h.get? n) (d.at_ (Hd.frag h.get? n))) = Z.fn.map fun l => l.map Fq.val := congrArg (fun z : AlH => z.2) e
  obtain ⟨h1, h2⟩ := Bool.and_eq_true_iff.mp (show (((Z.fx (Hd.frag h.get? n)).all (fun l => l.all id) && _) = true) from e1)
  obtain ⟨h3, h4⟩ := Bool.and_eq_true_iff.mp h2
  refine ⟨⟨fun l hl b hb => ?_, fun l hl d hd => List.all_eq_true.mp (List.all_eq_true.mp h3 l hl) d hd, e2⟩, fun P hP => ?_⟩
  · have := List.all_eq_true.mp (List.all_eq_true.mp h1 l hl) b hb
    exact this
  · have h5 := List.all_eq_true.mp h4 P hP
    cases q : h.get? P with
    | none =>
      rw [q] at h5
      cases h5
    | some o =>
      rw [q] at h5
      exact ⟨congrArg some (He.emptyTab_eq h5), He.frT_none q h5⟩
def Hd.hook (Z : Hd) : PySem.W.Hook where
  α := AlH
  obs := fun s => Z.obs s.heap.get? (Hd.frag s.heap.get? s.heap.objs.size)
  val := fun _ => Z.val
  says := fun _ h => ∃ K : PySem.W.Frag, K.In h ∧ Z.Says K ∧ ∀ P ∈ Z.tb K, h.get? P = some { cls := .none, data := .fields #[] } ∧ K.lookup P = none
  of := fun _ _ e => ⟨_, He.frT_in, Hd.says_of e⟩
  keeps := fun _ _ _ ⟨K, hK, c, t⟩ k => ⟨K, PySem.W.Frag.In.keeps hK k, c, fun P hP => ⟨k _ _ (t P hP).1, (t P hP).2⟩⟩
/-- the same, read off the tree -/
def Hd.ob (Z : Hd) (s : PySem.W.SharedT) : AlH := Z.obs (HandSHeadRun.getT s) (Hd.frag (HandSHeadRun.getT s) s.n)
theorem Hd.ob_eq (Z : Hd) (s : PySem.W.SharedT) : Z.ob s = Z.hook.obs s.abs := by
  have e : HandSHeadRun.getT s = s.abs.heap.get? := funext (HandSHeadRun.getT_eq s)
  show Z.obs (HandSHeadRun.getT s) (Hd.frag (HandSHeadRun.getT s) s.n) = Z.obs s.abs.heap.get? (Hd.frag s.abs.heap.get? s.abs.heap.objs.size)
  have en : s.abs.heap.objs.size = s.n := PySem.W.absHeap_size _ _ _
  rw [e, en]
section
variable {Z : Hd} {K : PySem.W.Frag}
theorem Hd.Says.get (c : Z.Says K) (i j : Nat) {b : Bool} (h : ((Z.fx K)[i]?).bind (·[j]?) = some b) : b = true := by
  obtain ⟨l, h1, h2⟩ := Option.bind_eq_some_iff.mp h
  exact c.fx l (List.mem_of_getElem? h1) b (List.mem_of_getElem? h2)
theorem Hd.Says.dec (c : Z.Says K) (i j : Nat) {p : Prop} [Decidable p] (h : ((Z.fx K)[i]?).bind (·[j]?) = some (decide p)) : p := of_decide_eq_true (c.get i j h)
theorem Hd.Says.fnx (c : Z.Says K) (i j : Nat) {d : Fq} (h : (Z.fn[i]?).bind (·[j]?) = some d) : fnX K (d.at_ K) = d.val ∧ d.ok K = true := by
  obtain ⟨l, h1, h2⟩ := Option.bind_eq_some_iff.mp h
  refine ⟨?_, c.ok l (List.mem_of_getElem? h1) d (List.mem_of_getElem? h2)⟩
  have e := congrArg (fun z => z[i]?.bind (·[j]?)) c.fn
  simp only [List.getElem?_map, h1, Option.map_some, Option.bind_some, h2, Option.some.injEq] at e
  exact e
theorem Hd.Says.fun (c : Z.Says K) (i j : Nat) {at_ : PySem.W.Frag → Addr} {name qual : Str} {st : Stmt} (h : (Z.fn[i]?).bind (·[j]?) = some ⟨at_, name, qual, st, [], []⟩) : ∃ fd, Fun K name qual st (at_ K) fd := by
  obtain ⟨e, o⟩ := c.fnx i j h
  exact Fq.fun e o rfl rfl
theorem Hd.Says.funD (c : Z.Says K) (i j : Nat) {at_ : PySem.W.Frag → Addr} {name qual : Str} {st : Stmt} {dv : List V} (h : (Z.fn[i]?).bind (·[j]?) = some ⟨at_, name, qual, st, [], dv⟩) : ∃ fd, FunD K name qual (defArgs st) (defBody st) (defScope st) dv [] (at_ K) fd := by
  obtain ⟨e, o⟩ := c.fnx i j h
  exact Fq.funD e o rfl
theorem Hd.Says.xi {P : Program} (c : Z.Says K) (i j : Nat) {at_ : PySem.W.Frag → Addr} {qual : Str} {st : Stmt} {cl : Addr} {us : List Str} (h : (Z.fn[i]?).bind (·[j]?) = some ⟨at_, "__init__", qual, st, us, []⟩) (b : xiB P.main.file K (at_ K) cl qual = true) : ∃ fd, XiE P K qual st (at_ K) cl fd := by
  obtain ⟨e, o⟩ := c.fnx i j h
  exact Fq.xi (d := ⟨at_, "__init__", qual, st, us, []⟩) e o rfl b rfl
end
/-- the goal that the head leaves, from the law's promise -/
theorem walk_H {l : PySem.W.OpenLaw} {n k : Nat} {q : Program} {loose : List Str} {XP : (Str → Option Value) → Heap → Prop} {d : DefRec} {Z : Hd} {x : Str}
    (hn : l.most = some n) (hn2 : n ≤ sizeLine) (hdf : d.params.defaults = []) (hr : Room k callerA)
    (F : ∀ (w : World) (mg : Str → Option Value) (fa : Addr) (h : Heap) (K : PySem.W.Frag), K.In h → Z.Says K → h.Ns mainGlobals mg → mg d.name = some (.ref fa) →
      ∃ fd : FuncData, (∀ (s : Shared) (u : Value), BindsTo s fd ⟨[u], []⟩ [(x, u)]) ∧
        ∀ base : Heap, K.In base → base.Ns mainGlobals mg → FnG ⟨l.prog, w, K, mg, base⟩ k fa fd [x] (spD K (TLaw n))) :
    PySem.W.WalkO q loose XP Z.hook.says l.row.toRowW d [] (fun f vs => PySem.call f vs) := by
  refine Att.attach_callB hn hdf fun w s₀ s₁ mg mb fa o pm cd doc a vs ns G Y ho hd hcd hmg hobj hints hlen hbits hg => ?_
  obtain ⟨K, KX, S, _⟩ := Y
  obtain ⟨fd, hb, hF⟩ := F w mg fa _ K KX S G.T.g hmg
  exact law_end (M := ⟨l.prog, w, K, mg, s₁.heap⟩) KX G.T.g G.T.b G.T.builtins G.T.nolimit hg hobj hints hlen hn2 hr hF hb
theorem walk_HT {l : PySem.W.OpenLaw} {n k : Nat} {q : Program} {loose : List Str} {XP : (Str → Option Value) → Heap → Prop} {d : DefRec} {Z : Hd} {x : Str}
    (hn : l.most = some n) (hn2 : n ≤ sizeLine) (hdf : d.params.defaults = []) (hr : Room k callerA)
    (F : ∀ (w : World) (mg : Str → Option Value) (fa : Addr) (h : Heap) (K : PySem.W.Frag), K.In h → Z.Says K → h.Ns mainGlobals mg → mg d.name = some (.ref fa) →
      ∃ (fd : FuncData) (cs : List (Addr × Addr × Str)), (∀ p ∈ cs, p.2.1 ∈ Z.tb K ∧ PySem.W.codeHdIn K p.1 p.2.1 = true) ∧ (cs.map (·.2.1)).Nodup ∧ (∀ (s : Shared) (u : Value), BindsTo s fd ⟨[u], []⟩ [(x, u)]) ∧
        ∀ base : Heap, K.In base → base.Ns mainGlobals mg → (∀ p ∈ cs, LamX.TabB base mg p.1 p.2.1) → FnG ⟨l.prog, w, K, mg, base⟩ k fa fd [x] (spD K (TLawT (cs.map fun p => (p.2.1, p.2.2)) n))) :
    PySem.W.WalkO q loose XP Z.hook.says l.row.toRowW d [] (fun f vs => PySem.call f vs) := by
  refine Att.attach_callB hn hdf fun w s₀ s₁ mg mb fa o pm cd doc a vs ns G Y ho hd hcd hmg hobj hints hlen hbits hg => ?_
  obtain ⟨K, KX, S, T⟩ := Y
  obtain ⟨fd, cs, hc, hnd, hb, hF⟩ := F w mg fa _ K KX S G.T.g hmg
  exact law_endT (M := ⟨l.prog, w, K, mg, s₁.heap⟩) (cs := cs) KX G.T.g G.T.b G.T.builtins G.T.nolimit hg (fun p hp => (T _ (hc p hp).1).1) (fun p hp => (T _ (hc p hp).1).2) hnd (fun p hp => PySem.W.codeHd_of_K KX (hc p hp).2) G.T.bmain hobj hints hlen hn2 hr hF hb
end DL
namespace DL
open PySem PySem.Spec PyProof.Rows L2

/-! ### a tuple of texts of the module -/
def GT (K : PySem.W.Frag) (mg : Str → Option Value) (x : Str) (d : D) : Prop := ∃ a, mg x = some (.ref a) ∧ ∀ N H, Rep K N H d (.ref a)
theorem wn_gt {C : CD} {X : Cx} {Γ : En} {O : Own} {Q : D → Own → Prop} {x : Str} {pos : Pos} {d : D} (h : GT C.M.K C.M.mg x d) (g : x ∈ C.Gs) (q : Q d O) : DL.WE C X (.Name x pos) Γ O Q := by
  obtain ⟨a, e, r⟩ := h
  exact we_glob g (.obj e r) q
def strsV : List Value → List Str → Bool
  | [], [] => true
  | .str z _ :: vs, x :: xs => decide (z = x) && strsV vs xs
  | _, _ => false
theorem strsV_ok : ∀ {vs : List Value} {xs : List Str}, strsV vs xs = true → Vals (xs.map V.str) vs
  | [], [], _ => .nil
  | .str z t :: vs, x :: xs, h => by
    unfold strsV at h
    obtain ⟨h1, h2⟩ := Bool.and_eq_true_iff.mp h
    have h1 := of_decide_eq_true h1
    subst h1
    exact .cons ⟨t, rfl⟩ (strsV_ok h2)
def strsB (K : PySem.W.Frag) (x : Str) (xs : List Str) : Bool := match PySem.W.nsIn K mainGlobals x with
  | some (some (.ref a)) => (match K.lookup a with
    | some ⟨.type t, _, .seq its _, _⟩ => decide (t = "tuple") && (decide (its.size ≤ sizeLine) && strsV its.toList xs)
    | _ => false)
  | _ => false
theorem reps_strs2 {K : PySem.W.Frag} {N : Addr → Prop} {H : Hp} : ∀ xs : List Str, Reps K N H (xs.map D.str) (xs.map V.str)
  | [] => reps_nil.mpr rfl
  | _ :: xs => reps_cons.mpr ⟨_, _, rfl, rep_str.mpr rfl, reps_strs2 xs⟩
theorem strsB_ok {K : PySem.W.Frag} {h : Heap} {mg : Str → Option Value} (X : K.In h) (G : h.Ns mainGlobals mg) {x : Str} {xs : List Str} (c : strsB K x xs = true) : GT K mg x (.ktup (xs.map .str)) := by
  unfold strsB at c
  split at c
  · rename_i a e
    split at c
    · rename_i t dd its n sl e2
      obtain ⟨c1, c2⟩ := Bool.and_eq_true_iff.mp c
      obtain ⟨c2, c3⟩ := Bool.and_eq_true_iff.mp c2
      have c1 := of_decide_eq_true c1
      subst c1
      refine ⟨a, PySem.W.mg_of X G e, fun N H => ?_⟩
      exact ⟨a, xs.map .str, rfl, .inr ⟨_, its, n, e2, rfl, rfl, of_decide_eq_true c2, strsV_ok c3⟩, reps_strs2 xs⟩
    · cases c
  · cases c
/-! ### words of names and of kinds -/
def TTakeOf (Cl bt : Addr) : TF := fun ds O Q E => ∃ (a : Addr) (ws : List Str) (i : Nat) (x : D) (xs : List Str) (O' : Own), ds = [.ref a, x] ∧ OUp O a (.ins Cl (wsF ws i)) (.ins Cl (wsF ws (i + 1))) O' ∧ WsOk ws i ∧ x = .ktup (xs.map .str) ∧
  (∀ y, ws[i]? = some y → y ∈ xs → Q (.str y) O') ∧ ((∀ y, ws[i]? = some y → ¬ y ∈ xs) → E (badT bt i) O)
def TTakeNm (Cl bt : Addr) : TF := fun ds O Q E => ∃ a ws i O', ds = [.ref a] ∧ OUp O a (.ins Cl (wsF ws i)) (.ins Cl (wsF ws (i + 1))) O' ∧ WsOk ws i ∧
  (∀ y, ws[i]? = some y → nmOk y = true → Q (.str y) O') ∧ ((∀ y, ws[i]? = some y → nmOk y = false) → E (badT bt i) O)
def kdL : List Str := ["back", "ahead", "sofar", "whole", "last", "same"]
theorem kdL_ex {y : Str} (h : y ∈ kdL) : ∃ k, y = kdS k := by
  simp only [kdL, List.mem_cons, List.not_mem_nil, or_false] at h
  rcases h with h | h | h | h | h | h
  · exact ⟨.back, h⟩
  · exact ⟨.ahead, h⟩
  · exact ⟨.sofar, h⟩
  · exact ⟨.whole, h⟩
  · exact ⟨.last, h⟩
  · exact ⟨.same, h⟩
theorem kdL_mem (k : Kd) : kdS k ∈ kdL := by cases k <;> decide +kernel
def kdOf (y : Str) : Option Kd := [Kd.back, .ahead, .sofar, .whole, .last, .same].find? fun k => decide (kdS k = y)
theorem kdOf_kd (k : Kd) : kdOf (kdS k) = some k := by cases k <;> decide +kernel
theorem kdOf_no {y : Str} (h : ¬ y ∈ kdL) : kdOf y = none := by
  unfold kdOf
  rw [List.find?_eq_none]
  intro k _ z
  exact h (by rw [← of_decide_eq_true z]; exact kdL_mem k)
/-- the tie whose words begin at an index; the index behind it -/
def tieAt (ws : List Str) (i : Nat) : Except Nat (Kd × Str × Int × Nat) := match ws[i]? with
  | none => .error i
  | some w => match kdOf w with
    | none => .error i
    | some k => if k.num then (match ws[i + 1]? with
        | none => .error (i + 1)
        | some v => match numIn v with
          | none => .error (i + 1)
          | some n => if kLo k ≤ n ∧ n ≤ 60 then (match ws[i + 2]? with
              | none => .error (i + 2)
              | some s => if nmOk s then .ok (k, s, n, i + 3) else .error (i + 2)) else .error (i + 1))
      else (match ws[i + 1]? with
        | none => .error (i + 1)
        | some s => if nmOk s then .ok (k, s, 0, i + 2) else .error (i + 1))
def TTakeTie (A : TA) (Cl bt : Addr) : TF := fun ds O Q E => ∃ a ws i, ds = [.ref a] ∧ OAt O a (.ins Cl (wsF ws i)) ∧ WsOk ws i ∧
  (∀ k s n j, tieAt ws i = .ok (k, s, n, j) → ∀ O', OUp O a (.ins Cl (wsF ws i)) (.ins Cl (wsF ws j)) O' → Q (tieD A k s n) O') ∧
  (∀ j, tieAt ws i = .error j → ∀ O', OUp O a (.ins Cl (wsF ws i)) (.ins Cl (wsF ws j)) O' → E (badT bt j) O')
theorem tieAt_bad {ws : List Str} {i : Nat} (h : ∀ y, ws[i]? = some y → ¬ y ∈ kdL) : tieAt ws i = .error i := by
  unfold tieAt
  cases e : ws[i]? with
  | none => rfl
  | some w =>
    dsimp only
    rw [kdOf_no (h w e)]
theorem tieAt_num {ws : List Str} {i : Nat} {k : Kd} (h : ws[i]? = some (kdS k)) (hk : k.num = true) (h2 : ∀ x n, ws[i + 1]? = some x → numIn x = some n → kLo k ≤ n → n ≤ 60 → False) : tieAt ws i = .error (i + 1) := by
  unfold tieAt
  rw [h]
  dsimp only
  rw [kdOf_kd]
  dsimp only
  rw [if_pos hk]
  cases e : ws[i + 1]? with
  | none => rfl
  | some v =>
    dsimp only
    cases e2 : numIn v with
    | none => rfl
    | some n =>
      dsimp only
      rw [if_neg fun z => h2 v n e e2 z.1 z.2]
theorem tieAt_num2 {ws : List Str} {i : Nat} {k : Kd} {v : Str} {n : Int} (h : ws[i]? = some (kdS k)) (hk : k.num = true) (h1 : ws[i + 1]? = some v) (h2 : numIn v = some n) (h3 : kLo k ≤ n) (h4 : n ≤ 60) :
    tieAt ws i = match ws[i + 2]? with
      | none => .error (i + 2)
      | some s => if nmOk s then .ok (k, s, n, i + 3) else .error (i + 2) := by
  unfold tieAt
  rw [h]
  dsimp only
  rw [kdOf_kd]
  dsimp only
  rw [if_pos hk, h1]
  dsimp only
  rw [h2]
  dsimp only
  rw [if_pos ⟨h3, h4⟩]
theorem tieAt_pl {ws : List Str} {i : Nat} {k : Kd} (h : ws[i]? = some (kdS k)) (hk : k.num = false) :
    tieAt ws i = match ws[i + 1]? with
      | none => .error (i + 1)
      | some s => if nmOk s then .ok (k, s, 0, i + 2) else .error (i + 1) := by
  unfold tieAt
  rw [h]
  dsimp only
  rw [kdOf_kd]
  dsimp only
  rw [if_neg (by rw [hk]; simp)]
theorem nm_bad {o : Option Str} {a : Except Nat (Kd × Str × Int × Nat)} {f : Str → Except Nat (Kd × Str × Int × Nat)} : (∀ y, o = some y → nmOk y = false) → (match o with
    | none => a
    | some s => if nmOk s then f s else a) = a := fun h => by
  cases o with
  | none => rfl
  | some s => 
    dsimp only
    rw [h s rfl]
    rfl
theorem tieAt_le {ws : List Str} {i j : Nat} {k : Kd} {s : Str} {n : Int} (h : tieAt ws i = .ok (k, s, n, j)) : j ≤ ws.length ∧ ((k.num = true ∧ ∃ v, ws[i]? = some (kdS k) ∧ ws[i + 1]? = some v ∧ numIn v = some n ∧ kLo k ≤ n ∧ n ≤ 60 ∧ ws[i + 2]? = some s ∧ nmOk s = true ∧ j = i + 3) ∨
    (k.num = false ∧ ws[i]? = some (kdS k) ∧ ws[i + 1]? = some s ∧ nmOk s = true ∧ n = 0 ∧ j = i + 2)) := by
  cases e : ws[i]? with
  | none => rw [tieAt_bad (fun y z => by rw [e] at z; cases z)] at h; cases h
  | some w =>
    by_cases hw : w ∈ kdL
    · obtain ⟨k', rfl⟩ := kdL_ex hw
      cases hk : k'.num with
      | true =>
        by_cases h2 : ∀ x n, ws[i + 1]? = some x → numIn x = some n → kLo k' ≤ n → n ≤ 60 → False
        · rw [tieAt_num e hk h2] at h
          cases h
        · simp only [Classical.not_forall] at h2
          obtain ⟨v, m, h2, h3, h4, h5, _⟩ := h2
          rw [tieAt_num2 e hk h2 h3 h4 h5] at h
          cases e2 : ws[i + 2]? with
          | none => rw [e2] at h; cases h
          | some s' =>
            rw [e2] at h
            dsimp only at h
            split at h
            · rename_i hn
              cases h
              have := (List.getElem?_eq_some_iff.mp e2).1
              exact ⟨by omega, .inl ⟨hk, v, rfl, h2, h3, h4, h5, rfl, hn, rfl⟩⟩
            · cases h
      | false =>
        rw [tieAt_pl e hk] at h
        cases e2 : ws[i + 1]? with
        | none => rw [e2] at h; cases h
        | some s' =>
          rw [e2] at h
          dsimp only at h
          split at h
          · rename_i hn
            cases h
            have := (List.getElem?_eq_some_iff.mp e2).1
            exact ⟨by omega, .inr ⟨hk, rfl, rfl, hn, rfl, rfl⟩⟩
          · cases h
    · rw [tieAt_bad (fun y z => by rw [e] at z; cases z; exact hw)] at h
      cases h
/-- a line with one tie -/
def tieRd (ws : List Str) : Except Nat (Kd × Str × Int) := match tieAt ws 0 with
  | .error j => .error j
  | .ok (k, s, n, j) => if j = ws.length then .ok (k, s, n) else .error j
def TReadT (K : PySem.W.Frag) (A : TA) (Ct bt : Addr) : TF := fun ds O Q E => ∃ v, ds = [.ref Ct, v] ∧ StrQ K O v ∧ (v.isS = false → E (badT bt 0) O) ∧ (∀ x, v = .str x → x.length ≤ 1900 ∧
  (∀ j, tieRd (Txt.split x " ") = .error j → E (badT bt j) O) ∧ (∀ k s n, tieRd (Txt.split x " ") = .ok (k, s, n) → Q (tieD A k s n) O))
def wrongD (ws : List Str) : D := match tieRd ws with
  | .error j => .int (j : Int)
  | .ok _ => .non
def TWrong : TF := fun ds O Q _ => ∃ ws, ds = [.lst (ws.map .str)] ∧ ws ≠ [] ∧ ws.length ≤ 1901 ∧ (∀ x ∈ ws, x.length ≤ 1900) ∧ Q (wrongD ws) O
/-! ### words of numbers -/
def goodN (lo : Int) (x : Str) (n : Int) : Prop := numIn x = some n ∧ lo ≤ n ∧ n ≤ 60
theorem strI_zero : strI 0 = "0" := by decide +kernel
theorem goodN_strI {x : Str} {n lo : Int} (h0 : 0 ≤ lo) (g : goodN lo x n) : x = strI n := by
  obtain ⟨h, h1, h2⟩ := g
  rcases Int.lt_or_le n 1 with h3 | h3
  · have hn : n = 0 := by omega
    subst hn
    unfold numIn at h
    split at h
    · cases h
    · rename_i hc
      split at h
      · rename_i h3
        have hx : x ≠ "" := fun z => hc (.inl z)
        have hl : x.length ≤ 60 := by
          have : ¬ 60 < x.length := fun z => hc (.inr (.inl z))
          omega
        have hf : figOk x = true := by
          cases e : figOk x with
          | true => rfl
          | false => exact absurd (.inr (.inr e)) hc
        obtain ⟨c, l, hcl⟩ := str_head hx
        rcases h3 with h3 | h3
        · rw [h3, strI_zero]
        · have hd := intText_digits (figOk_all hf) (by rw [hcl]; simp) (by omega)
          rw [hd] at h
          have e : NumText.digitsVal x.cps.toList = 0 := by
            injection h with h
            omega
          exact dig_str (n := 0) (figOk_all hf) h3 (by rw [hcl]; simp) e (by omega)
      · cases h
  · exact good_strI ⟨h, h3, h2⟩
theorem strI_goodN {n lo : Int} (h0 : 0 ≤ lo) (h1 : lo ≤ n) (h2 : n ≤ 60) : goodN lo (strI n) n := by
  have := strI_num ⟨n.toNat, by omega⟩
  rw [show ((n.toNat : Nat) : Int) = n by omega] at this
  exact ⟨this, h1, h2⟩
def wN (lo : Nat) : List Str := (List.range (61 - lo)).map fun (i : Nat) => strI ((lo : Int) + (i : Int))
theorem wN_iff {lo : Nat} (hl : lo ≤ 60) {x : Str} : x ∈ wN lo ↔ ∃ n, goodN lo x n := by
  unfold wN
  rw [List.mem_map]
  constructor
  · rintro ⟨i, hi, rfl⟩
    have := List.mem_range.mp hi
    exact ⟨_, strI_goodN (by omega) (by omega) (by omega)⟩
  · rintro ⟨n, g⟩
    have e := goodN_strI (by omega) g
    obtain ⟨_, h1, h2⟩ := g
    exact ⟨(n - lo).toNat, List.mem_range.mpr (by omega), by rw [e, show (lo : Int) + ((n - lo).toNat : Nat) = n from by omega]⟩
theorem rng_strNl (lo : Nat) : (rngD (lo : Int) (61 - lo)).filterMap strN = (wN lo).map .str := by
  unfold rngD wN
  have gen : ∀ l : List Nat, (l.map fun (i : Nat) => D.int ((lo : Int) + (i : Int))).filterMap strN = (l.map fun (i : Nat) => strI ((lo : Int) + (i : Int))).map .str := fun l => by
    induction l with
    | nil => rfl
    | cons n ns ih => simp only [List.map_cons, List.filterMap_cons, strN, ih]
  exact gen _
/-- the signs of a text that are not among those of another one -/
def outF (z : Str) (d : D) : Option D := match d with
  | .str y => match y.cps.toList with
    | [c] => if c ∈ z.cps.toList then none else some (.str y)
    | _ => none
  | _ => none
theorem out_fm {x z : Str} : ((sgnD x).filterMap (outF z)).isEmpty = (x.cps.toList.map fun c => decide (c ∈ z.cps.toList)).all id := by
  unfold sgnD
  rw [List.filterMap_map]
  induction x.cps.toList with
  | nil => rfl
  | cons c l ih =>
    rw [List.map_cons, List.all_cons, ← ih, List.filterMap_cons]
    by_cases h : c ∈ z.cps.toList
    · simp [outF, Function.comp, h]
    · simp [outF, Function.comp, h]
/-! ### the text of a tie that is read -/
theorem split_join_id (x : Str) : Txt.join " " (Txt.split x " ") = x := by
  rw [TL.join_eq]
  exact StrLaws.join_split x " "
theorem list3 {α : Type} {l : List α} {a b c : α} (h0 : l[0]? = some a) (h1 : l[1]? = some b) (h2 : l[2]? = some c) (hl : 3 = l.length) : l = [a, b, c] := by
  match l, hl with
  | [x, y, z], _ =>
    simp at h0 h1 h2
    subst h0 h1 h2
    rfl
theorem list2 {α : Type} {l : List α} {a b : α} (h0 : l[0]? = some a) (h1 : l[1]? = some b) (hl : 2 = l.length) : l = [a, b] := by
  match l, hl with
  | [x, y], _ =>
    simp at h0 h1
    subst h0 h1
    rfl
theorem tieRd_ok {x s : Str} {k : Kd} {n : Int} (h : tieRd (Txt.split x " ") = .ok (k, s, n)) : tieS k s n = x ∧ kOk k n ∧ nmOk s = true := by
  unfold tieRd at h
  split at h
  · cases h
  · rename_i k' s' n' j e
    split at h
    · rename_i hj
      cases h
      rw [← tieS_join]
      obtain ⟨_, ⟨hk, v, h0, h1, h2, h3, h4, h5, h6, h7⟩ | ⟨hk, h0, h1, h2, h3, h4⟩⟩ := tieAt_le e
      · have hl := list3 (l := Txt.split x " ") h0 h1 h5 (by omega)
        have hlo : 0 ≤ kLo k := by unfold kLo; split <;> omega
        have ev : v = strI n := goodN_strI hlo ⟨h2, h3, h4⟩
        refine ⟨?_, ⟨by omega, h4, fun z => by subst z; exact h3⟩, h6⟩
        rw [show lineP k s n = Txt.split x " " from by unfold lineP; rw [if_pos hk, hl, ev]; rfl]
        exact split_join_id x
      · have hl := list2 (l := Txt.split x " ") h0 h1 (by omega)
        subst h3
        refine ⟨?_, ⟨by omega, by omega, fun z => by subst z; cases hk⟩, h2⟩
        rw [show lineP k s 0 = Txt.split x " " from by unfold lineP; rw [if_neg (by rw [hk]; simp), hl]]
        exact split_join_id x
    · cases h
theorem tieRd_line {s : Str} {k : Kd} {n : Int} (hs : nmOk s = true) (hk : kOk k n) : ∃ m, tieRd (Txt.split (tieS k s n) " ") = .ok (k, s, m) ∧ (k.num = true → m = n) := by
  rw [line_split hs]
  unfold lineP tieRd
  cases e : k.num with
  | true =>
    have g : goodN (kLo k) (strI n) n := strI_goodN (by unfold kLo; split <;> omega) (by unfold kLo; split; exact hk.2.2 (by assumption); exact hk.1) hk.2.1
    rw [if_pos rfl, tieAt_num2 (v := strI n) (n := n) (k := k) rfl e rfl g.1 g.2.1 g.2.2]
    simp only [List.getElem?_cons_succ, List.getElem?_cons_zero, hs, if_true]
    exact ⟨n, rfl, fun _ => rfl⟩
  | false =>
    rw [if_neg (by simp), tieAt_pl (k := k) rfl e]
    simp only [List.getElem?_cons_succ, List.getElem?_cons_zero, hs, if_true]
    exact ⟨0, rfl, fun z => by cases z⟩
end DL
namespace DL
open PySem PySem.Spec PyProof.Rows L2 SeqAt
/-! ### a list beside the empty one -/
theorem op_ne0 {X : Cx} (hu : X.A.units < cLine) : OpR X (compareOp .NotEq) (fun x y H Q => ∃ a b xs, x = .ref a ∧ y = .ref b ∧ SqL X.K H a xs ∧ SqL X.K H b [] ∧ Q (.bl (!xs.isEmpty)) H) := by
  intro pins s σ H x y v u Q I rx ry ⟨a, b, xs, ex, ey, ha, hb, q⟩
  subst ex
  subst ey
  obtain rfl : v = Value.ref a := rx
  obtain rfl : u = Value.ref b := ry
  obtain ⟨its, rv, ⟨o, n, ho, hc, _, hd⟩, _⟩ := I.list ha
  obtain ⟨its2, rv2, ⟨o2, n2, ho2, hc2, _, hd2⟩, _⟩ := I.list hb
  have e1 : xs.length = its.length := rv.length
  have e2 : its2.length = 0 := by have := rv2.length; simpa using this.symm
  by_cases hz : its.length = its2.length
  · refine RcNeAt.lists (e := fun _ => true) ⟨o, ho, hc, n, hd⟩ ⟨o2, ho2, hc2, n2, hd2⟩ (by simpa using hz) hu (fun j h1 h2 => absurd h2 (by simp; omega)) _ _ _ _ ⟨.bl _, H, I, rfl, ?_⟩
    have : xs = [] := List.length_eq_zero_iff.mp (by omega)
    subst this
    have e3 : its.toArray.size = 0 := by rw [List.size_toArray]; omega
    rw [e3]
    exact q
  · refine RcNeAt.lists_lengths ⟨o, ho, hc, n, hd⟩ ⟨o2, ho2, hc2, n2, hd2⟩ (by simpa using hz) hu _ _ _ _ ⟨.bl _, H, I, rfl, ?_⟩
    cases xs with
    | nil => exact absurd (by rw [List.length_nil] at e1; omega) hz
    | cons _ _ => exact q
theorem ow_ne0 {C : CD} {X : Cx} {Γ : En} {O : Own} {Q : D → Own → Prop} {x y : D} {ds : List D} (hx : SqO O x ds) (hy : SqO O y []) (q : Q (.bl (!ds.isEmpty)) O) : OW C X (compareOp .NotEq) x y Γ O Q := .mk fun ok σ H S v w rx ry k hk pins s v' w' I rv rw' => by
  obtain ⟨p, xs, rfl, e, rx⟩ := hx.ok S.own rx
  obtain ⟨p', ys, rfl, e', ry⟩ := hy.ok S.own ry
  have e2 : ys = [] := reps_nil.mp ry
  subst e2
  refine op_ne0 ok.room.units0 pins s σ H _ _ v' w' k I rv rw' ⟨p, p', xs, rfl, rfl, SqL.of e, SqL.of e', ?_⟩
  have : xs.isEmpty = ds.isEmpty := by
    have := reps_len rx
    cases xs <;> cases ds <;> simp at this <;> rfl
  rw [this]
  exact hk.at q S (rep_bl.mpr rfl)
end DL
namespace DL
open PySem PySem.Spec PyProof.Rows L2

/-! ### a row of words with two empty ones behind -/
def rowAt (ws : List Str) (j : Nat) : Str := (ws[j]?).getD ""
theorem row_some {ws : List Str} {j : Nat} {x : Str} (h : ws[j]? = some x) : rowAt ws j = x := by unfold rowAt; rw [h]; rfl
theorem row_none {ws : List Str} {j : Nat} (h : ws[j]? = none) : rowAt ws j = "" := by unfold rowAt; rw [h]; rfl
theorem row_len {ws : List Str} (h : ∀ x ∈ ws, x.length ≤ 1900) (j : Nat) : (rowAt ws j).length ≤ 1900 := by
  cases e : ws[j]? with
  | none => rw [row_none e]; decide +kernel
  | some x => rw [row_some e]; exact h x (List.mem_of_getElem? e)
theorem row_at {ws : List Str} {j : Nat} (h1 : 1 ≤ ws.length) (hj : j ≤ 2) : atI ((ws ++ (["", ""] : List Str)).map D.str) (j : Int) = some (D.str (rowAt ws j)) := by
  refine atI_of ?_
  rw [List.getElem?_map]
  have : (ws ++ (["", ""] : List Str))[j]? = some (rowAt ws j) := by
    by_cases h : j < ws.length
    · rw [List.getElem?_append_left h]
      unfold rowAt
      rw [List.getElem?_eq_getElem h]
      rfl
    · rw [List.getElem?_append_right (by omega), row_none (List.getElem?_eq_none_iff.mpr (by omega))]
      match hk : j - ws.length, (show j - ws.length ≤ 1 by omega) with
      | 0, _ => rfl
      | 1, _ => rfl
      | n + 2, hn => omega
  rw [this]
  rfl
theorem emp_kd : ¬ ("" : Str) ∈ kdL := by decide +kernel
theorem emp_num : numIn "" = none := by decide +kernel
theorem emp_nm : nmOk "" = false := by decide +kernel
theorem wrong0 {ws : List Str} (h1 : 1 ≤ ws.length) (h : ¬ rowAt ws 0 ∈ kdL) : wrongD ws = .int 0 := by
  unfold wrongD tieRd
  rw [tieAt_bad fun y hy => by rw [row_some hy] at h; exact h]
  rfl
theorem row_kd {ws : List Str} {k : Kd} (h : rowAt ws 0 = kdS k) : ws[0]? = some (kdS k) := by
  cases e : ws[0]? with
  | none => rw [row_none e] at h; exact absurd (by rw [h]; exact kdL_mem k) emp_kd
  | some x => rw [row_some e] at h; rw [h]
theorem wrong1 {ws : List Str} {k : Kd} (h : rowAt ws 0 = kdS k) (hk : k.num = true) (h2 : ∀ n, ¬ goodN (kLo k) (rowAt ws 1) n) : wrongD ws = .int 1 := by
  unfold wrongD tieRd
  rw [tieAt_num (row_kd h) hk fun x n hx hn h3 h4 => h2 n (by rw [row_some hx]; exact ⟨hn, h3, h4⟩)]
  rfl
def tieAtI (k : Kd) : Nat := if k.num then 2 else 1
theorem wrong2 {ws : List Str} {k : Kd} (h : rowAt ws 0 = kdS k) (h2 : k.num = true → ∃ n, goodN (kLo k) (rowAt ws 1) n) (h3 : nmOk (rowAt ws (tieAtI k)) = false) : wrongD ws = .int (tieAtI k : Nat) := by
  unfold wrongD tieRd
  unfold tieAtI at h3 ⊢
  cases hk : k.num with
  | true =>
    rw [hk] at h3
    obtain ⟨n, g⟩ := h2 hk
    have e1 : ws[1]? = some (rowAt ws 1) := by
      cases e : ws[1]? with
      | none => rw [row_none e] at g; have := g.1; rw [emp_num] at this; cases this
      | some x => rw [row_some e]
    rw [tieAt_num2 (row_kd h) hk e1 g.1 g.2.1 g.2.2, nm_bad fun y hy => by rw [← row_some hy]; exact h3]
    rfl
  | false =>
    rw [hk] at h3
    rw [tieAt_pl (row_kd h) hk, nm_bad fun y hy => by rw [← row_some hy]; exact h3]
    rfl
theorem wrong3 {ws : List Str} {k : Kd} (h : rowAt ws 0 = kdS k) (h2 : k.num = true → ∃ n, goodN (kLo k) (rowAt ws 1) n) (h3 : nmOk (rowAt ws (tieAtI k)) = true) : wrongD ws = if ws.length = tieAtI k + 1 then .non else .int ((tieAtI k + 1 : Nat) : Int) := by
  unfold wrongD tieRd
  unfold tieAtI at h3 ⊢
  cases hk : k.num with
  | true =>
    rw [hk] at h3
    obtain ⟨n, g⟩ := h2 hk
    have e1 : ws[1]? = some (rowAt ws 1) := by
      cases e : ws[1]? with
      | none => rw [row_none e] at g; have := g.1; rw [emp_num] at this; cases this
      | some x => rw [row_some e]
    have e2 : ws[2]? = some (rowAt ws 2) := by
      cases e : ws[2]? with
      | none => rw [if_pos rfl, row_none e] at h3; rw [emp_nm] at h3; cases h3
      | some x => rw [row_some e]
    rw [tieAt_num2 (row_kd h) hk e1 g.1 g.2.1 g.2.2, show 0 + 2 = 2 from rfl, e2]
    dsimp only
    rw [if_pos (show nmOk (rowAt ws 2) = true from h3)]
    dsimp only
    by_cases hl : ws.length = 3
    · rw [if_pos (by omega), if_pos (by simp; omega)]
    · rw [if_neg (by omega), if_neg (by simp; omega)]
      rfl
  | false =>
    rw [hk] at h3
    have e2 : ws[1]? = some (rowAt ws 1) := by
      cases e : ws[1]? with
      | none => rw [if_neg (by simp), row_none e] at h3; rw [emp_nm] at h3; cases h3
      | some x => rw [row_some e]
    rw [tieAt_pl (row_kd h) hk, show 0 + 1 = 1 from rfl, e2]
    dsimp only
    rw [if_pos (show nmOk (rowAt ws 1) = true from h3)]
    dsimp only
    by_cases hl : ws.length = 2
    · rw [if_pos (by omega), if_pos (by simp; omega)]
    · rw [if_neg (by omega), if_neg (by simp; omega)]
      rfl
theorem nm_out {x : Str} (h1 : 1 ≤ x.length) (h2 : x.length ≤ 8) : ((sgnD x).filterMap (outF lettersS)).isEmpty = nmOk x := by
  rw [out_fm]
  unfold nmOk
  simp [h1, h2]
theorem op_notinS {X : Cx} : OpR X (compareOp .NotIn) (fun x y H Q => ∃ c z, x = .str ⟨#[c]⟩ ∧ y = .str z ∧ Q (.bl (!decide (c ∈ z.cps.toList))) H) := by
  intro pins s σ H x y v u Q I rx ry ⟨c, z, ex, ey, q⟩
  refine op_notin_str pins s σ H x y v u Q I rx ry ⟨_, _, ex, ey, ?_⟩
  have e : (!(Builtin.Str.occurrences z (⟨#[c]⟩ : Str) 0 z.length 1).isEmpty) = decide (c ∈ z.cps.toList) := PySem.StrLaws.found_one z c
  rw [e]
  exact q
theorem ow_notinSgn {C : CD} {X : Cx} {Γ : En} {O : Own} {Q : D → Own → Prop} {c : Nat} {z : Str} (q : Q (.bl (!decide (c ∈ z.cps.toList))) O) : OW C X (compareOp .NotIn) (.str ⟨#[c]⟩) (.str z) Γ O Q := ow_of op_notinS fun σ H v w S rx ry k hk => by
  rw [rep_str] at rx ry
  subst rx; subst ry
  exact ⟨c, z, rfl, rfl, hk.at q S (rep_bl.mpr rfl)⟩
/-! ### a tie's parts, written -/
def partF : D → Option D
  | .str x => some (.str x)
  | .int n => some (.str (strI n))
  | _ => none
theorem part_line {k : Kd} {s : Str} {n : Int} : ([D.str (kdS k), if k.num then .int n else .non, .str s] : List D).filterMap partF = (lineP k s n).map .str := by
  unfold lineP
  cases k.num <;> rfl
theorem part_mem {k : Kd} {s : Str} {n : Int} {d : D} (h : d ∈ ([D.str (kdS k), if k.num then .int n else .non, .str s] : List D)) : (∃ x, d = .str x) ∨ d = .int n ∨ d = .non := by
  simp only [List.mem_cons, List.not_mem_nil, or_false] at h
  rcases h with rfl | h | rfl
  · exact .inl ⟨_, rfl⟩
  · cases hk : k.num <;> rw [hk] at h <;> subst h
    · exact .inr (.inr rfl)
    · exact .inr (.inl rfl)
  · exact .inl ⟨_, rfl⟩
theorem strI_len0 {n : Int} (h1 : 0 ≤ n) (h2 : n ≤ 60) : (strI n).length ≤ 2 := by
  have h : ∀ k : Fin 61, (strI (k.val : Int)).length ≤ 2 := by decide +kernel
  have := h ⟨n.toNat, by omega⟩
  rw [show ((n.toNat : Nat) : Int) = n by omega] at this
  exact this
theorem kdS_len (k : Kd) : (kdS k).length ≤ 5 := by cases k <;> decide +kernel
theorem line_sum {k : Kd} {s : Str} {n : Int} (nm : nmOk s = true) (hk : kOk k n) : ((lineP k s n).map fun w : Str => w.length + 1).sum ≤ 18 := by
  have h1 := kdS_len k
  have h2 := nm_len nm
  have h3 := strI_len0 hk.1 hk.2.1
  unfold strI at h3
  unfold lineP
  cases k.num
  · simp only [Bool.false_eq_true, if_false, List.map_cons, List.map_nil, List.sum_cons, List.sum_nil]
    omega
  · simp only [if_true, List.map_cons, List.map_nil, List.sum_cons, List.sum_nil]
    omega
theorem line_sz {k : Kd} {s : Str} {n : Int} (nm : nmOk s = true) (hk : kOk k n) : ((lineP k s n).map (·.length)).sum + (lineP k s n).length * ((" " : Str)).length ≤ 16777216 := by
  rw [sum_one]
  have := line_sum nm hk
  omega
theorem tieS_len {k : Kd} {s : Str} {n : Int} (nm : nmOk s = true) (hk : kOk k n) : (tieS k s n).length ≤ 17 := by
  rw [← tieS_join]
  have h := join_len (lineP k s n) line_ne
  have := line_sum nm hk
  omega
theorem tieD_eq {A : TA} {k : Kd} {s : Str} {n m : Int} (h : k.num = true → m = n) : tieD A k s m = tieD A k s n := by
  cases k <;> first | rfl | (rw [h rfl])
theorem split_each {y w : Str} (h : w ∈ Txt.split y " ") : w.length ≤ y.length := by
  have hs := split_sum y
  have gen : ∀ l : List Str, w ∈ l → w.length + 1 ≤ (l.map (fun w : Str => w.length + 1)).sum := fun l => by
    induction l with
    | nil => exact fun h => by cases h
    | cons a l ih =>
      intro h
      rw [List.map_cons, List.sum_cons]
      rcases List.mem_cons.mp h with rfl | h
      · omega
      · have := ih h
        omega
  have := gen _ h
  omega
theorem tieRd_empty : tieRd (Txt.split "" " ") = .error 0 := by
  have e : Txt.split "" " " = ([""] : List Str) := by decide +kernel
  rw [e]
  unfold tieRd
  rw [tieAt_bad fun y hy => by
    have : y = "" := by simpa using hy.symm
    subst this
    exact emp_kd]
theorem wrong_err {ws : List Str} {j : Nat} (h : tieRd ws = .error j) : wrongD ws = .int (j : Int) := by unfold wrongD; rw [h]
theorem wrong_ok {ws : List Str} {q : Kd × Str × Int} (h : tieRd ws = .ok q) : wrongD ws = .non := by unfold wrongD; rw [h]
def labT : List Str := ["a", "back", "from", "last", "zzzzzzzz", "same"]
theorem labT_nm : ∀ s ∈ labT, nmOk s = true := by decide +kernel
def oddT : List Str := (["", "back", "ahead", "sofar", "whole", "last", "same", "0", "1", "60", "61", "01", "-1", "a", "A", "from"] : List Str) ++ (["a\n", "aaaaaaaaa", "7 a", "x", Txt.mul "9" 61] : List Str)
theorem oddT_len : ∀ o ∈ oddT, o.length ≤ 61 := by decide +kernel
end DL
namespace K20
open PySem PySem.Spec PyProof.Rows L2 DL
def top (i : Nat) : Stmt := PySem.Challenge.pw_remadedays_k20_ties_written_and_read.main.body.getD i (.Pass ⟨0, 0, 0, 0⟩)
abbrev s__wall : Stmt := top 0
abbrev s_is_integer : Stmt := top 11
abbrev s_is_within : Stmt := top 12
abbrev s_is_name : Stmt := top 13
abbrev s_need_name : Stmt := top 14
abbrev s_number_in : Stmt := top 15
abbrev s_take_tie : Stmt := top 21
abbrev s__law_pen : Stmt := top 31
abbrev s__law_draw : Stmt := top 32
abbrev s__law_pick : Stmt := top 33
abbrev s__law_tie : Stmt := top 34
abbrev s__law_plain : Stmt := top 35
abbrev s__law_heard : Stmt := top 36
abbrev s__law_wrong : Stmt := top 37
abbrev s__law_bent : Stmt := top 38
abbrev s_law : Stmt := top 39
abbrev m_BadNumber___init__ : Stmt := inClass (top 3) 0
abbrev m_BadName___init__ : Stmt := inClass (top 4) 0
abbrev m_BadText___init__ : Stmt := inClass (top 5) 0
abbrev m_Words___init__ : Stmt := inClass (top 17) 0
abbrev m_Words_refuse : Stmt := inClass (top 17) 1
abbrev m_Words_is_over : Stmt := inClass (top 17) 2
abbrev m_Words_upcoming : Stmt := inClass (top 17) 3
abbrev m_Words_skip : Stmt := inClass (top 17) 4
abbrev m_Words_take_of : Stmt := inClass (top 17) 5
abbrev m_Words_take_name : Stmt := inClass (top 17) 6
abbrev m_Words_take_number : Stmt := inClass (top 17) 7
abbrev m_Words_take_day : Stmt := inClass (top 17) 8
abbrev m_Words_is_lone : Stmt := inClass (top 17) 9
abbrev m_Words_close : Stmt := inClass (top 17) 10
abbrev m_Tie___init__ : Stmt := inClass (top 22) 0
abbrev m_Tie_read : Stmt := inClass (top 22) 1
abbrev m_Tie_sources : Stmt := inClass (top 22) 2
abbrev m_Tie_users : Stmt := inClass (top 22) 3
abbrev m_Tie___call__ : Stmt := inClass (top 22) 4
abbrev m_Tie___eq__ : Stmt := inClass (top 22) 5
abbrev m_Numbered___init__ : Stmt := inClass (top 23) 0
abbrev m_Back___init__ : Stmt := inClass (top 24) 0
abbrev m_Back_sources : Stmt := inClass (top 24) 1
abbrev m_Back_users : Stmt := inClass (top 24) 2
abbrev m_Back___str__ : Stmt := inClass (top 24) 3
abbrev m_Ahead___init__ : Stmt := inClass (top 25) 0
abbrev m_Ahead_sources : Stmt := inClass (top 25) 1
abbrev m_Ahead_users : Stmt := inClass (top 25) 2
abbrev m_Ahead___str__ : Stmt := inClass (top 25) 3
abbrev m_Sofar_sources : Stmt := inClass (top 26) 0
abbrev m_Sofar_users : Stmt := inClass (top 26) 1
abbrev m_Sofar___str__ : Stmt := inClass (top 26) 2
abbrev m_Whole_sources : Stmt := inClass (top 27) 0
abbrev m_Whole_users : Stmt := inClass (top 27) 1
abbrev m_Whole___str__ : Stmt := inClass (top 27) 2
abbrev m_Last_sources : Stmt := inClass (top 28) 0
abbrev m_Last_users : Stmt := inClass (top 28) 1
abbrev m_Last___str__ : Stmt := inClass (top 28) 2
abbrev m_Same_sources : Stmt := inClass (top 29) 0
abbrev m_Same_users : Stmt := inClass (top 29) 1
abbrev m_Same___str__ : Stmt := inClass (top 29) 2
end K20
namespace K20
open PySem PySem.Spec PyProof.Rows L2 DL
/-! ### the head -/
def A_f__law_pen (K : PySem.W.Frag) : Addr := He.ga K "_law_pen"
def A_f__law_draw (K : PySem.W.Frag) : Addr := He.ga K "_law_draw"
def A_f__law_pick (K : PySem.W.Frag) : Addr := He.ga K "_law_pick"
def A_f_is_integer (K : PySem.W.Frag) : Addr := He.ga K "is_integer"
def A_f_is_within (K : PySem.W.Frag) : Addr := He.ga K "is_within"
def A_f_is_name (K : PySem.W.Frag) : Addr := He.ga K "is_name"
def A_c_BadName (K : PySem.W.Frag) : Addr := He.ga K "BadName"
def A_f_BadName___init__ (K : PySem.W.Frag) : Addr := He.ma K (A_c_BadName K) "__init__"
def A_cl_BadName (K : PySem.W.Frag) : Addr := cloA K (A_f_BadName___init__ K)
def A_f_need_name (K : PySem.W.Frag) : Addr := He.ga K "need_name"
def A_f_number_in (K : PySem.W.Frag) : Addr := He.ga K "number_in"
def A_c_Words (K : PySem.W.Frag) : Addr := He.ga K "Words"
def A_c_BadText (K : PySem.W.Frag) : Addr := He.ga K "BadText"
def A_f_BadText___init__ (K : PySem.W.Frag) : Addr := He.ma K (A_c_BadText K) "__init__"
def A_cl_BadText (K : PySem.W.Frag) : Addr := cloA K (A_f_BadText___init__ K)
def A_f_Words___init__ (K : PySem.W.Frag) : Addr := He.ma K (A_c_Words K) "__init__"
def A_f_Words_refuse (K : PySem.W.Frag) : Addr := He.ma K (A_c_Words K) "refuse"
def A_f_Words_is_over (K : PySem.W.Frag) : Addr := He.ma K (A_c_Words K) "is_over"
def A_f_Words_upcoming (K : PySem.W.Frag) : Addr := He.ma K (A_c_Words K) "upcoming"
def A_f_Words_skip (K : PySem.W.Frag) : Addr := He.ma K (A_c_Words K) "skip"
def A_f_Words_take_of (K : PySem.W.Frag) : Addr := He.ma K (A_c_Words K) "take_of"
def A_f_Words_take_name (K : PySem.W.Frag) : Addr := He.ma K (A_c_Words K) "take_name"
def A_f_Words_take_number (K : PySem.W.Frag) : Addr := He.ma K (A_c_Words K) "take_number"
def A_f_Words_close (K : PySem.W.Frag) : Addr := He.ma K (A_c_Words K) "close"
def A_c_Tie (K : PySem.W.Frag) : Addr := He.ga K "Tie"
def A_c_Numbered (K : PySem.W.Frag) : Addr := He.ga K "Numbered"
def A_c_Back (K : PySem.W.Frag) : Addr := He.ga K "Back"
def A_c_Ahead (K : PySem.W.Frag) : Addr := He.ga K "Ahead"
def A_c_Sofar (K : PySem.W.Frag) : Addr := He.ga K "Sofar"
def A_c_Whole (K : PySem.W.Frag) : Addr := He.ga K "Whole"
def A_c_Last (K : PySem.W.Frag) : Addr := He.ga K "Last"
def A_c_Same (K : PySem.W.Frag) : Addr := He.ga K "Same"
def A_f_Tie___init__ (K : PySem.W.Frag) : Addr := He.ma K (A_c_Tie K) "__init__"
def A_f_Numbered___init__ (K : PySem.W.Frag) : Addr := He.ma K (A_c_Numbered K) "__init__"
def A_c_BadNumber (K : PySem.W.Frag) : Addr := He.ga K "BadNumber"
def A_f_BadNumber___init__ (K : PySem.W.Frag) : Addr := He.ma K (A_c_BadNumber K) "__init__"
def A_cl_BadNumber (K : PySem.W.Frag) : Addr := cloA K (A_f_BadNumber___init__ K)
def A_f_Back___init__ (K : PySem.W.Frag) : Addr := He.ma K (A_c_Back K) "__init__"
def A_f_Ahead___init__ (K : PySem.W.Frag) : Addr := He.ma K (A_c_Ahead K) "__init__"
def A_f_Back___str__ (K : PySem.W.Frag) : Addr := He.ma K (A_c_Back K) "__str__"
def A_f_Ahead___str__ (K : PySem.W.Frag) : Addr := He.ma K (A_c_Ahead K) "__str__"
def A_f_Sofar___str__ (K : PySem.W.Frag) : Addr := He.ma K (A_c_Sofar K) "__str__"
def A_f_Whole___str__ (K : PySem.W.Frag) : Addr := He.ma K (A_c_Whole K) "__str__"
def A_f_Last___str__ (K : PySem.W.Frag) : Addr := He.ma K (A_c_Last K) "__str__"
def A_f_Same___str__ (K : PySem.W.Frag) : Addr := He.ma K (A_c_Same K) "__str__"
def A_f_Tie___eq__ (K : PySem.W.Frag) : Addr := He.ma K (A_c_Tie K) "__eq__"
def A_f__law_tie (K : PySem.W.Frag) : Addr := He.ga K "_law_tie"
def A_f__law_plain (K : PySem.W.Frag) : Addr := He.ga K "_law_plain"
def A_f_take_tie (K : PySem.W.Frag) : Addr := He.ga K "take_tie"
def A_p_Tie_read (K : PySem.W.Frag) : Addr := He.ma K (A_c_Tie K) "read"
def A_rs_Tie_read (K : PySem.W.Frag) : List Value := recTl K (A_p_Tie_read K) "classmethod"
def A_f_Tie_read (K : PySem.W.Frag) : Addr := recHd K (A_p_Tie_read K) "classmethod"
def A_c_DayError (K : PySem.W.Frag) : Addr := He.ga K "DayError"
def A_f__law_heard (K : PySem.W.Frag) : Addr := He.ga K "_law_heard"
def A_f__law_wrong (K : PySem.W.Frag) : Addr := He.ga K "_law_wrong"
def A_f__law_bent (K : PySem.W.Frag) : Addr := He.ga K "_law_bent"
def A_f_law (K : PySem.W.Frag) : Addr := He.ga K "law"
def A_P_law (K : PySem.W.Frag) : Addr := tabA K (codeA K (A_f_law K))
def fx0 (K : PySem.W.Frag) : List Bool := [
  decide (PySem.W.nsIn K mainGlobals "int" = some none),
  decide (PySem.W.nsIn K mainGlobals "len" = some none),
  decide (PySem.W.nsIn K mainGlobals "abs" = some none),
  decide (PySem.W.nsIn K mainGlobals "list" = some none),
  decide (PySem.W.nsIn K mainGlobals "tuple" = some none),
  decide (PySem.W.nsIn K mainGlobals "range" = some none),
  decide (PySem.W.nsIn K mainGlobals "isinstance" = some none),
  decide (PySem.W.nsIn K mainGlobals "sum" = some none),
  decide (PySem.W.nsIn K mainGlobals "enumerate" = some none),
  decide (PySem.W.nsIn K mainGlobals "repr" = some none),
  decide (PySem.W.nsIn K mainGlobals "str" = some none),
  decide (PySem.W.nsIn K mainGlobals "sorted" = some none),
  decide (PySem.W.nsIn K mainGlobals "dict" = some none),
  decide (PySem.W.nsIn K mainGlobals "max" = some none),
  decide (PySem.W.nsIn K mainGlobals "min" = some none),
  decide (PySem.W.nsIn K mainGlobals "all" = some none),
  decide (PySem.W.nsIn K mainGlobals "any" = some none),
  decide (PySem.W.nsIn K mainGlobals "bool" = some none),
  decide (PySem.W.nsIn K mainGlobals "iter" = some none),
  decide (PySem.W.nsIn K mainGlobals "super" = some none),
  decide (PySem.W.nsIn K mainGlobals "set" = some none),
  decide (PySem.W.nsIn K mainGlobals "zip" = some none),
  decide (PySem.W.nsIn K mainGlobals "object" = some none),
  decide (PySem.W.nsIn K mainGlobals "_law_pen" = some (some (.ref (A_f__law_pen K)))),
  decide (PySem.W.nsIn K mainGlobals "_law_draw" = some (some (.ref (A_f__law_draw K)))),
  decide (PySem.W.nsIn K mainGlobals "_law_pick" = some (some (.ref (A_f__law_pick K)))),
  decide (PySem.W.nsIn K mainGlobals "is_integer" = some (some (.ref (A_f_is_integer K)))),
  decide (PySem.W.nsIn K mainGlobals "is_within" = some (some (.ref (A_f_is_within K)))),
  decide (strB K "LETTERS" lettersS = true),
  decide (intB K "MOST_LETTERS" 8 = true)]
def fx1 (K : PySem.W.Frag) : List Bool := [
  decide (PySem.W.nsIn K mainGlobals "is_name" = some (some (.ref (A_f_is_name K)))),
  decide (PySem.W.nsIn K mainGlobals "BadName" = some (some (.ref (A_c_BadName K)))),
  decide (oexB K (A_c_BadName K) = true),
  decide (PySem.W.findIn K (.ref (A_c_BadName K)) "__setattr__" = some (some (.builtin "object.__setattr__"))),
  decide (PySem.W.subIn K (.ref (A_c_BadName K)) (.type "BaseException") = some true),
  decide (PySem.W.typeIn K (.ref (A_c_BadName K)) = some (.type "type")),
  decide (PySem.W.keepIn K (.ref (A_c_BadName K)) = true),
  decide (PySem.W.findIn K (.ref (A_c_BadName K)) "__init__" = some (some (.ref (A_f_BadName___init__ K)))),
  decide (PySem.W.typeIn K (.ref (A_f_BadName___init__ K)) = some (.type "function")),
  decide (cellB K (A_cl_BadName K) (A_c_BadName K) = true),
  decide (PySem.W.ks_superIn K (A_c_BadName K) (A_c_BadName K) "__init__" = some (some (.builtin "ValueError.__init__"))),
  decide (PySem.W.subIn K (.ref (A_c_BadName K)) (.type "ValueError") = some true),
  decide (PySem.W.mroIn K (A_c_BadName K) (.ref (A_c_BadName K)) = some true),
  decide (PySem.W.nsIn K cStatics "thirdparty.any" = some none),
  decide (PySem.W.findIn K (.ref (A_c_BadName K)) "value" = some none),
  decide ((PySem.W.clsIn K (A_c_BadName K)).isSome = true),
  decide (PySem.W.hasDictIn K (A_c_BadName K) = true),
  decide (PySem.W.findIn K (.ref (A_c_BadName K)) "__getattribute__" = some (some (.builtin "BaseException.__getattribute__"))),
  decide (PySem.W.findIn K (.ref (A_c_BadName K)) "__getattr__" = some none),
  decide (PySem.W.findIn K (.ref (A_c_BadName K)) "__class__" = some (some (.builtin "object.__class__"))),
  decide (PySem.W.specialIn K (.builtin "object.__class__") "__get__" = some (some (.builtin "getset_descriptor.__get__"))),
  decide (PySem.W.takesIn K (.builtin "object.__class__") = some true),
  decide (PySem.W.mroIn K (A_c_BadName K) (.type "object") = some true),
  decide (PySem.W.nsIn K mainGlobals "need_name" = some (some (.ref (A_f_need_name K)))),
  decide (strB K "FIGURES" figuresS = true),
  decide (intB K "MOST_FIGURES" 60 = true),
  decide (PySem.W.nsIn K mainGlobals "number_in" = some (some (.ref (A_f_number_in K)))),
  decide (PySem.W.nsIn K mainGlobals "Words" = some (some (.ref (A_c_Words K)))),
  decide (PySem.W.plainGet K (A_c_Words K) Str.empty = true),
  decide (PySem.W.hasDictIn K (A_c_Words K) = true)]
def fx2 (K : PySem.W.Frag) : List Bool := [
  decide (PySem.W.plainOver K (A_c_Words K) = true),
  decide (PySem.W.findIn K (.ref (A_c_Words K)) "__setattr__" = some (some (.builtin "object.__setattr__"))),
  decide (PySem.W.findIn K (.ref (A_c_Words K)) "split_words" = some none),
  decide (PySem.W.findIn K (.ref (A_c_Words K)) "line_index" = some none),
  decide (PySem.W.findIn K (.ref (A_c_Words K)) "next_index" = some none),
  decide (PySem.W.nsIn K mainGlobals "BadText" = some (some (.ref (A_c_BadText K)))),
  decide (oexB K (A_c_BadText K) = true),
  decide (PySem.W.findIn K (.ref (A_c_BadText K)) "__setattr__" = some (some (.builtin "object.__setattr__"))),
  decide (PySem.W.subIn K (.ref (A_c_BadText K)) (.type "BaseException") = some true),
  decide (PySem.W.typeIn K (.ref (A_c_BadText K)) = some (.type "type")),
  decide (PySem.W.keepIn K (.ref (A_c_BadText K)) = true),
  decide (PySem.W.findIn K (.ref (A_c_BadText K)) "__init__" = some (some (.ref (A_f_BadText___init__ K)))),
  decide (PySem.W.typeIn K (.ref (A_f_BadText___init__ K)) = some (.type "function")),
  decide (cellB K (A_cl_BadText K) (A_c_BadText K) = true),
  decide (PySem.W.ks_superIn K (A_c_BadText K) (A_c_BadText K) "__init__" = some (some (.builtin "ValueError.__init__"))),
  decide (PySem.W.subIn K (.ref (A_c_BadText K)) (.type "ValueError") = some true),
  decide (PySem.W.mroIn K (A_c_BadText K) (.ref (A_c_BadText K)) = some true),
  decide (PySem.W.findIn K (.ref (A_c_BadText K)) "line" = some none),
  decide (PySem.W.findIn K (.ref (A_c_BadText K)) "word" = some none),
  decide ((PySem.W.clsIn K (A_c_BadText K)).isSome = true),
  decide (PySem.W.hasDictIn K (A_c_BadText K) = true),
  decide (PySem.W.findIn K (.ref (A_c_BadText K)) "__getattribute__" = some (some (.builtin "BaseException.__getattribute__"))),
  decide (PySem.W.findIn K (.ref (A_c_BadText K)) "__getattr__" = some none),
  decide (PySem.W.findIn K (.ref (A_c_BadText K)) "__class__" = some (some (.builtin "object.__class__"))),
  decide (PySem.W.mroIn K (A_c_BadText K) (.type "object") = some true),
  decide (PySem.W.findIn K (.ref (A_c_Words K)) "__init__" = some (some (.ref (A_f_Words___init__ K)))),
  decide (PySem.W.isFn K (.ref (A_f_Words___init__ K)) = true),
  decide (PySem.W.makesIn K (A_c_Words K) = true),
  decide (PySem.W.keepIn K (.ref (A_c_Words K)) = true),
  decide (PySem.W.findIn K (.ref (A_c_Words K)) "refuse" = some (some (.ref (A_f_Words_refuse K))))]
def fx3 (K : PySem.W.Frag) : List Bool := [
  decide (PySem.W.isFn K (.ref (A_f_Words_refuse K)) = true),
  decide (PySem.W.findIn K (.ref (A_c_Words K)) "is_over" = some (some (.ref (A_f_Words_is_over K)))),
  decide (PySem.W.isFn K (.ref (A_f_Words_is_over K)) = true),
  decide (PySem.W.findIn K (.ref (A_c_Words K)) "upcoming" = some (some (.ref (A_f_Words_upcoming K)))),
  decide (PySem.W.isFn K (.ref (A_f_Words_upcoming K)) = true),
  decide (PySem.W.findIn K (.ref (A_c_Words K)) "skip" = some (some (.ref (A_f_Words_skip K)))),
  decide (PySem.W.isFn K (.ref (A_f_Words_skip K)) = true),
  decide (PySem.W.findIn K (.ref (A_c_Words K)) "take_of" = some (some (.ref (A_f_Words_take_of K)))),
  decide (PySem.W.isFn K (.ref (A_f_Words_take_of K)) = true),
  decide (PySem.W.findIn K (.ref (A_c_Words K)) "take_name" = some (some (.ref (A_f_Words_take_name K)))),
  decide (PySem.W.isFn K (.ref (A_f_Words_take_name K)) = true),
  decide (PySem.W.findIn K (.ref (A_c_Words K)) "take_number" = some (some (.ref (A_f_Words_take_number K)))),
  decide (PySem.W.isFn K (.ref (A_f_Words_take_number K)) = true),
  decide (PySem.W.findIn K (.ref (A_c_Words K)) "close" = some (some (.ref (A_f_Words_close K)))),
  decide (PySem.W.isFn K (.ref (A_f_Words_close K)) = true),
  decide (PySem.W.nsIn K mainGlobals "Tie" = some (some (.ref (A_c_Tie K)))),
  decide (PySem.W.nsIn K mainGlobals "Numbered" = some (some (.ref (A_c_Numbered K)))),
  decide (PySem.W.nsIn K mainGlobals "Back" = some (some (.ref (A_c_Back K)))),
  decide (PySem.W.plainGet K (A_c_Back K) Str.empty = true),
  decide (PySem.W.hasDictIn K (A_c_Back K) = true),
  decide (PySem.W.plainOver K (A_c_Back K) = true),
  decide (PySem.W.findIn K (.ref (A_c_Back K)) "__setattr__" = some (some (.builtin "object.__setattr__"))),
  decide (PySem.W.findIn K (.ref (A_c_Back K)) "source" = some none),
  decide (PySem.W.findIn K (.ref (A_c_Back K)) "number" = some none),
  decide (PySem.W.nsIn K mainGlobals "Ahead" = some (some (.ref (A_c_Ahead K)))),
  decide (PySem.W.plainGet K (A_c_Ahead K) Str.empty = true),
  decide (PySem.W.hasDictIn K (A_c_Ahead K) = true),
  decide (PySem.W.plainOver K (A_c_Ahead K) = true),
  decide (PySem.W.findIn K (.ref (A_c_Ahead K)) "__setattr__" = some (some (.builtin "object.__setattr__"))),
  decide (PySem.W.findIn K (.ref (A_c_Ahead K)) "source" = some none)]
def fx4 (K : PySem.W.Frag) : List Bool := [
  decide (PySem.W.findIn K (.ref (A_c_Ahead K)) "number" = some none),
  decide (PySem.W.nsIn K mainGlobals "Sofar" = some (some (.ref (A_c_Sofar K)))),
  decide (PySem.W.plainGet K (A_c_Sofar K) Str.empty = true),
  decide (PySem.W.hasDictIn K (A_c_Sofar K) = true),
  decide (PySem.W.plainOver K (A_c_Sofar K) = true),
  decide (PySem.W.findIn K (.ref (A_c_Sofar K)) "__setattr__" = some (some (.builtin "object.__setattr__"))),
  decide (PySem.W.findIn K (.ref (A_c_Sofar K)) "source" = some none),
  decide (PySem.W.nsIn K mainGlobals "Whole" = some (some (.ref (A_c_Whole K)))),
  decide (PySem.W.plainGet K (A_c_Whole K) Str.empty = true),
  decide (PySem.W.hasDictIn K (A_c_Whole K) = true),
  decide (PySem.W.plainOver K (A_c_Whole K) = true),
  decide (PySem.W.findIn K (.ref (A_c_Whole K)) "__setattr__" = some (some (.builtin "object.__setattr__"))),
  decide (PySem.W.findIn K (.ref (A_c_Whole K)) "source" = some none),
  decide (PySem.W.nsIn K mainGlobals "Last" = some (some (.ref (A_c_Last K)))),
  decide (PySem.W.plainGet K (A_c_Last K) Str.empty = true),
  decide (PySem.W.hasDictIn K (A_c_Last K) = true),
  decide (PySem.W.plainOver K (A_c_Last K) = true),
  decide (PySem.W.findIn K (.ref (A_c_Last K)) "__setattr__" = some (some (.builtin "object.__setattr__"))),
  decide (PySem.W.findIn K (.ref (A_c_Last K)) "source" = some none),
  decide (PySem.W.nsIn K mainGlobals "Same" = some (some (.ref (A_c_Same K)))),
  decide (PySem.W.plainGet K (A_c_Same K) Str.empty = true),
  decide (PySem.W.hasDictIn K (A_c_Same K) = true),
  decide (PySem.W.plainOver K (A_c_Same K) = true),
  decide (PySem.W.findIn K (.ref (A_c_Same K)) "__setattr__" = some (some (.builtin "object.__setattr__"))),
  decide (PySem.W.findIn K (.ref (A_c_Same K)) "source" = some none),
  decide (PySem.W.findIn K (.ref (A_c_Tie K)) "__init__" = some (some (.ref (A_f_Tie___init__ K)))),
  decide (PySem.W.findIn K (.ref (A_c_Sofar K)) "__init__" = some (some (.ref (A_f_Tie___init__ K)))),
  decide (PySem.W.isFn K (.ref (A_f_Tie___init__ K)) = true),
  decide (PySem.W.makesIn K (A_c_Sofar K) = true),
  decide (PySem.W.keepIn K (.ref (A_c_Sofar K)) = true)]
def fx5 (K : PySem.W.Frag) : List Bool := [
  decide (PySem.W.findIn K (.ref (A_c_Whole K)) "__init__" = some (some (.ref (A_f_Tie___init__ K)))),
  decide (PySem.W.makesIn K (A_c_Whole K) = true),
  decide (PySem.W.keepIn K (.ref (A_c_Whole K)) = true),
  decide (PySem.W.findIn K (.ref (A_c_Last K)) "__init__" = some (some (.ref (A_f_Tie___init__ K)))),
  decide (PySem.W.makesIn K (A_c_Last K) = true),
  decide (PySem.W.keepIn K (.ref (A_c_Last K)) = true),
  decide (PySem.W.findIn K (.ref (A_c_Same K)) "__init__" = some (some (.ref (A_f_Tie___init__ K)))),
  decide (PySem.W.makesIn K (A_c_Same K) = true),
  decide (PySem.W.keepIn K (.ref (A_c_Same K)) = true),
  decide (PySem.W.readsIn K (A_c_Tie K) (.type "type") = true),
  decide (PySem.W.specialIn K (.ref (A_c_Tie K)) "__getattribute__" = some (some (.builtin "type.__getattribute__"))),
  decide (PySem.W.findCls K (.ref (A_c_Tie K)) (.type "type") "__init__" = some (.val (.ref (A_f_Tie___init__ K)))),
  decide (PySem.W.findIn K (.ref (A_c_Numbered K)) "__init__" = some (some (.ref (A_f_Numbered___init__ K)))),
  decide (PySem.W.readsIn K (A_c_Numbered K) (.type "type") = true),
  decide (PySem.W.specialIn K (.ref (A_c_Numbered K)) "__getattribute__" = some (some (.builtin "type.__getattribute__"))),
  decide (PySem.W.findCls K (.ref (A_c_Numbered K)) (.type "type") "__init__" = some (.val (.ref (A_f_Numbered___init__ K)))),
  decide (PySem.W.nsIn K mainGlobals "BadNumber" = some (some (.ref (A_c_BadNumber K)))),
  decide (oexB K (A_c_BadNumber K) = true),
  decide (PySem.W.findIn K (.ref (A_c_BadNumber K)) "__setattr__" = some (some (.builtin "object.__setattr__"))),
  decide (PySem.W.subIn K (.ref (A_c_BadNumber K)) (.type "BaseException") = some true),
  decide (PySem.W.typeIn K (.ref (A_c_BadNumber K)) = some (.type "type")),
  decide (PySem.W.keepIn K (.ref (A_c_BadNumber K)) = true),
  decide (PySem.W.findIn K (.ref (A_c_BadNumber K)) "__init__" = some (some (.ref (A_f_BadNumber___init__ K)))),
  decide (PySem.W.typeIn K (.ref (A_f_BadNumber___init__ K)) = some (.type "function")),
  decide (cellB K (A_cl_BadNumber K) (A_c_BadNumber K) = true),
  decide (PySem.W.ks_superIn K (A_c_BadNumber K) (A_c_BadNumber K) "__init__" = some (some (.builtin "ValueError.__init__"))),
  decide (PySem.W.subIn K (.ref (A_c_BadNumber K)) (.type "ValueError") = some true),
  decide (PySem.W.mroIn K (A_c_BadNumber K) (.ref (A_c_BadNumber K)) = some true),
  decide (PySem.W.findIn K (.ref (A_c_BadNumber K)) "value" = some none),
  decide ((PySem.W.clsIn K (A_c_BadNumber K)).isSome = true)]
def fx6 (K : PySem.W.Frag) : List Bool := [
  decide (PySem.W.hasDictIn K (A_c_BadNumber K) = true),
  decide (PySem.W.findIn K (.ref (A_c_BadNumber K)) "__getattribute__" = some (some (.builtin "BaseException.__getattribute__"))),
  decide (PySem.W.findIn K (.ref (A_c_BadNumber K)) "__getattr__" = some none),
  decide (PySem.W.findIn K (.ref (A_c_BadNumber K)) "__class__" = some (some (.builtin "object.__class__"))),
  decide (PySem.W.mroIn K (A_c_BadNumber K) (.type "object") = some true),
  decide (intB K "MOST_OFFSET" 60 = true),
  decide (PySem.W.findIn K (.ref (A_c_Back K)) "__init__" = some (some (.ref (A_f_Back___init__ K)))),
  decide (PySem.W.isFn K (.ref (A_f_Back___init__ K)) = true),
  decide (PySem.W.makesIn K (A_c_Back K) = true),
  decide (PySem.W.keepIn K (.ref (A_c_Back K)) = true),
  decide (PySem.W.findIn K (.ref (A_c_Ahead K)) "__init__" = some (some (.ref (A_f_Ahead___init__ K)))),
  decide (PySem.W.isFn K (.ref (A_f_Ahead___init__ K)) = true),
  decide (PySem.W.makesIn K (A_c_Ahead K) = true),
  decide (PySem.W.keepIn K (.ref (A_c_Ahead K)) = true),
  decide (PySem.W.findIn K (.ref (A_c_Back K)) "__str__" = some (some (.ref (A_f_Back___str__ K)))),
  decide (PySem.W.isFn K (.ref (A_f_Back___str__ K)) = true),
  decide (PySem.W.findIn K (.ref (A_c_Ahead K)) "__str__" = some (some (.ref (A_f_Ahead___str__ K)))),
  decide (PySem.W.isFn K (.ref (A_f_Ahead___str__ K)) = true),
  decide (PySem.W.findIn K (.ref (A_c_Sofar K)) "__str__" = some (some (.ref (A_f_Sofar___str__ K)))),
  decide (PySem.W.isFn K (.ref (A_f_Sofar___str__ K)) = true),
  decide (PySem.W.findIn K (.ref (A_c_Whole K)) "__str__" = some (some (.ref (A_f_Whole___str__ K)))),
  decide (PySem.W.isFn K (.ref (A_f_Whole___str__ K)) = true),
  decide (PySem.W.findIn K (.ref (A_c_Last K)) "__str__" = some (some (.ref (A_f_Last___str__ K)))),
  decide (PySem.W.isFn K (.ref (A_f_Last___str__ K)) = true),
  decide (PySem.W.findIn K (.ref (A_c_Same K)) "__str__" = some (some (.ref (A_f_Same___str__ K)))),
  decide (PySem.W.isFn K (.ref (A_f_Same___str__ K)) = true),
  decide (PySem.W.findIn K (.ref (A_c_Back K)) "__class__" = some (some (.builtin "object.__class__"))),
  decide (PySem.W.mroIn K (A_c_Back K) (.type "object") = some true),
  decide (PySem.W.findIn K (.ref (A_c_Back K)) "__ne__" = some (some (.builtin "object.__ne__"))),
  decide (PySem.W.kitOne K (.ref (A_c_Back K)) (.ref (A_c_Tie K)) = some true)]
def fx7 (K : PySem.W.Frag) : List Bool := [
  decide (PySem.W.findIn K (.ref (A_c_Ahead K)) "__class__" = some (some (.builtin "object.__class__"))),
  decide (PySem.W.mroIn K (A_c_Ahead K) (.type "object") = some true),
  decide (PySem.W.findIn K (.ref (A_c_Ahead K)) "__ne__" = some (some (.builtin "object.__ne__"))),
  decide (PySem.W.kitOne K (.ref (A_c_Ahead K)) (.ref (A_c_Tie K)) = some true),
  decide (PySem.W.findIn K (.ref (A_c_Sofar K)) "__class__" = some (some (.builtin "object.__class__"))),
  decide (PySem.W.mroIn K (A_c_Sofar K) (.type "object") = some true),
  decide (PySem.W.findIn K (.ref (A_c_Sofar K)) "__ne__" = some (some (.builtin "object.__ne__"))),
  decide (PySem.W.kitOne K (.ref (A_c_Sofar K)) (.ref (A_c_Tie K)) = some true),
  decide (PySem.W.findIn K (.ref (A_c_Whole K)) "__class__" = some (some (.builtin "object.__class__"))),
  decide (PySem.W.mroIn K (A_c_Whole K) (.type "object") = some true),
  decide (PySem.W.findIn K (.ref (A_c_Whole K)) "__ne__" = some (some (.builtin "object.__ne__"))),
  decide (PySem.W.kitOne K (.ref (A_c_Whole K)) (.ref (A_c_Tie K)) = some true),
  decide (PySem.W.findIn K (.ref (A_c_Last K)) "__class__" = some (some (.builtin "object.__class__"))),
  decide (PySem.W.mroIn K (A_c_Last K) (.type "object") = some true),
  decide (PySem.W.findIn K (.ref (A_c_Last K)) "__ne__" = some (some (.builtin "object.__ne__"))),
  decide (PySem.W.kitOne K (.ref (A_c_Last K)) (.ref (A_c_Tie K)) = some true),
  decide (PySem.W.findIn K (.ref (A_c_Same K)) "__class__" = some (some (.builtin "object.__class__"))),
  decide (PySem.W.mroIn K (A_c_Same K) (.type "object") = some true),
  decide (PySem.W.findIn K (.ref (A_c_Same K)) "__ne__" = some (some (.builtin "object.__ne__"))),
  decide (PySem.W.kitOne K (.ref (A_c_Same K)) (.ref (A_c_Tie K)) = some true),
  decide (PySem.W.kitOne K (.type "NoneType") (.ref (A_c_Tie K)) = some false),
  decide (PySem.W.kitOne K (.type "bool") (.ref (A_c_Tie K)) = some false),
  decide (PySem.W.kitOne K (.type "int") (.ref (A_c_Tie K)) = some false),
  decide (PySem.W.kitOne K (.type "str") (.ref (A_c_Tie K)) = some false),
  decide (PySem.W.kitOne K (.type "list") (.ref (A_c_Tie K)) = some false),
  decide (PySem.W.kitOne K (.type "tuple") (.ref (A_c_Tie K)) = some false),
  decide (PySem.W.kitOne K (.type "dict") (.ref (A_c_Tie K)) = some false),
  decide (PySem.W.findIn K (.ref (A_c_Tie K)) "__eq__" = some (some (.ref (A_f_Tie___eq__ K)))),
  decide (PySem.W.findIn K (.ref (A_c_Back K)) "__eq__" = some (some (.ref (A_f_Tie___eq__ K)))),
  decide (PySem.W.isFn K (.ref (A_f_Tie___eq__ K)) = true)]
def fx8 (K : PySem.W.Frag) : List Bool := [
  decide (PySem.W.findIn K (.ref (A_c_Ahead K)) "__eq__" = some (some (.ref (A_f_Tie___eq__ K)))),
  decide (PySem.W.findIn K (.ref (A_c_Sofar K)) "__eq__" = some (some (.ref (A_f_Tie___eq__ K)))),
  decide (PySem.W.findIn K (.ref (A_c_Whole K)) "__eq__" = some (some (.ref (A_f_Tie___eq__ K)))),
  decide (PySem.W.findIn K (.ref (A_c_Last K)) "__eq__" = some (some (.ref (A_f_Tie___eq__ K)))),
  decide (PySem.W.findIn K (.ref (A_c_Same K)) "__eq__" = some (some (.ref (A_f_Tie___eq__ K)))),
  decide (PySem.W.notFirst K (A_c_Back K) (.ref (A_c_Back K)) = true),
  decide (PySem.W.notFirst K (A_c_Back K) (.ref (A_c_Ahead K)) = true),
  decide (PySem.W.notFirst K (A_c_Back K) (.ref (A_c_Sofar K)) = true),
  decide (PySem.W.notFirst K (A_c_Back K) (.ref (A_c_Whole K)) = true),
  decide (PySem.W.notFirst K (A_c_Back K) (.ref (A_c_Last K)) = true),
  decide (PySem.W.notFirst K (A_c_Back K) (.ref (A_c_Same K)) = true),
  decide (PySem.W.notFirst K (A_c_Ahead K) (.ref (A_c_Back K)) = true),
  decide (PySem.W.notFirst K (A_c_Ahead K) (.ref (A_c_Ahead K)) = true),
  decide (PySem.W.notFirst K (A_c_Ahead K) (.ref (A_c_Sofar K)) = true),
  decide (PySem.W.notFirst K (A_c_Ahead K) (.ref (A_c_Whole K)) = true),
  decide (PySem.W.notFirst K (A_c_Ahead K) (.ref (A_c_Last K)) = true),
  decide (PySem.W.notFirst K (A_c_Ahead K) (.ref (A_c_Same K)) = true),
  decide (PySem.W.notFirst K (A_c_Sofar K) (.ref (A_c_Back K)) = true),
  decide (PySem.W.notFirst K (A_c_Sofar K) (.ref (A_c_Ahead K)) = true),
  decide (PySem.W.notFirst K (A_c_Sofar K) (.ref (A_c_Sofar K)) = true),
  decide (PySem.W.notFirst K (A_c_Sofar K) (.ref (A_c_Whole K)) = true),
  decide (PySem.W.notFirst K (A_c_Sofar K) (.ref (A_c_Last K)) = true),
  decide (PySem.W.notFirst K (A_c_Sofar K) (.ref (A_c_Same K)) = true),
  decide (PySem.W.notFirst K (A_c_Whole K) (.ref (A_c_Back K)) = true),
  decide (PySem.W.notFirst K (A_c_Whole K) (.ref (A_c_Ahead K)) = true),
  decide (PySem.W.notFirst K (A_c_Whole K) (.ref (A_c_Sofar K)) = true),
  decide (PySem.W.notFirst K (A_c_Whole K) (.ref (A_c_Whole K)) = true),
  decide (PySem.W.notFirst K (A_c_Whole K) (.ref (A_c_Last K)) = true),
  decide (PySem.W.notFirst K (A_c_Whole K) (.ref (A_c_Same K)) = true),
  decide (PySem.W.notFirst K (A_c_Last K) (.ref (A_c_Back K)) = true)]
def fx9 (K : PySem.W.Frag) : List Bool := [
  decide (PySem.W.notFirst K (A_c_Last K) (.ref (A_c_Ahead K)) = true),
  decide (PySem.W.notFirst K (A_c_Last K) (.ref (A_c_Sofar K)) = true),
  decide (PySem.W.notFirst K (A_c_Last K) (.ref (A_c_Whole K)) = true),
  decide (PySem.W.notFirst K (A_c_Last K) (.ref (A_c_Last K)) = true),
  decide (PySem.W.notFirst K (A_c_Last K) (.ref (A_c_Same K)) = true),
  decide (PySem.W.notFirst K (A_c_Same K) (.ref (A_c_Back K)) = true),
  decide (PySem.W.notFirst K (A_c_Same K) (.ref (A_c_Ahead K)) = true),
  decide (PySem.W.notFirst K (A_c_Same K) (.ref (A_c_Sofar K)) = true),
  decide (PySem.W.notFirst K (A_c_Same K) (.ref (A_c_Whole K)) = true),
  decide (PySem.W.notFirst K (A_c_Same K) (.ref (A_c_Last K)) = true),
  decide (PySem.W.notFirst K (A_c_Same K) (.ref (A_c_Same K)) = true),
  decide (PySem.W.nsIn K mainGlobals "_law_tie" = some (some (.ref (A_f__law_tie K)))),
  decide (PySem.W.nsIn K mainGlobals "_law_plain" = some (some (.ref (A_f__law_plain K)))),
  decide (strsB K "TIE_WORDS" kdL = true),
  decide (PySem.W.nsIn K mainGlobals "take_tie" = some (some (.ref (A_f_take_tie K)))),
  decide (PySem.W.findCls K (.ref (A_c_Tie K)) (.type "type") "read" = some (.get (.builtin "classmethod.__get__") (.ref (A_p_Tie_read K)) .none (.ref (A_c_Tie K)))),
  decide (PySem.W.recIn K (A_p_Tie_read K) "classmethod" = some (.ref (A_f_Tie_read K) :: (A_rs_Tie_read K))),
  decide (PySem.W.fnIn K (A_f_Tie_read K) = true),
  decide (PySem.W.nsIn K mainGlobals "DayError" = some (some (.ref (A_c_DayError K)))),
  decide (PySem.W.exmOne K (.ref (A_c_BadText K)) (.ref (A_c_DayError K)) = some true),
  decide (PySem.W.kitOne K (.ref (A_c_BadText K)) (.ref (A_c_BadText K)) = some true),
  decide (PySem.W.nsIn K mainGlobals "_law_heard" = some (some (.ref (A_f__law_heard K)))),
  decide (PySem.W.nsIn K mainGlobals "_law_wrong" = some (some (.ref (A_f__law_wrong K)))),
  decide (PySem.W.nsIn K mainGlobals "_law_bent" = some (some (.ref (A_f__law_bent K)))),
  decide (PySem.W.kitOne K (.ref (A_c_Back K)) (.type "str") = some false),
  decide (PySem.W.kitOne K (.ref (A_c_Ahead K)) (.type "str") = some false),
  decide (PySem.W.kitOne K (.ref (A_c_Sofar K)) (.type "str") = some false),
  decide (PySem.W.kitOne K (.ref (A_c_Whole K)) (.type "str") = some false),
  decide (PySem.W.kitOne K (.ref (A_c_Last K)) (.type "str") = some false),
  decide (PySem.W.kitOne K (.ref (A_c_Same K)) (.type "str") = some false)]
def fx10 (K : PySem.W.Frag) : List Bool := [
  decide (PySem.W.nsIn K mainGlobals "law" = some (some (.ref (A_f_law K)))),
  decide (PySem.W.codeHdIn K (codeA K (A_f_law K)) (A_P_law K) = true),
  decide (([(A_P_law K)] : List Addr).Nodup),
  decide (xiB PySem.Challenge.pw_remadedays_k20_ties_written_and_read.main.file K (A_f_BadName___init__ K) (A_cl_BadName K) "BadName.__init__" = true),
  decide (xiB PySem.Challenge.pw_remadedays_k20_ties_written_and_read.main.file K (A_f_BadText___init__ K) (A_cl_BadText K) "BadText.__init__" = true),
  decide (xiB PySem.Challenge.pw_remadedays_k20_ties_written_and_read.main.file K (A_f_BadNumber___init__ K) (A_cl_BadNumber K) "BadNumber.__init__" = true),
  decide (xiB PySem.Challenge.pw_remadedays_k20_ties_written_and_read.main.file K (A_f_BadText___init__ K) (A_cl_BadText K) "BadText.__init__" = true)]
def fxs (K : PySem.W.Frag) : List (List Bool) := [fx0 K, fx1 K, fx2 K, fx3 K, fx4 K, fx5 K, fx6 K, fx7 K, fx8 K, fx9 K, fx10 K]
def fq0 : List Fq := [
  ⟨A_f__law_pen, "_law_pen", "_law_pen", s__law_pen, [], []⟩,
  ⟨A_f__law_draw, "_law_draw", "_law_draw", s__law_draw, [], []⟩,
  ⟨A_f__law_pick, "_law_pick", "_law_pick", s__law_pick, [], []⟩,
  ⟨A_f_is_integer, "is_integer", "is_integer", s_is_integer, [], []⟩,
  ⟨A_f_is_within, "is_within", "is_within", s_is_within, [], []⟩,
  ⟨A_f_is_name, "is_name", "is_name", s_is_name, [], []⟩,
  ⟨A_f_BadName___init__, "__init__", "BadName.__init__", m_BadName___init__, ["__class__"], []⟩,
  ⟨A_f_need_name, "need_name", "need_name", s_need_name, [], []⟩,
  ⟨A_f_number_in, "number_in", "number_in", s_number_in, [], []⟩,
  ⟨A_f_BadText___init__, "__init__", "BadText.__init__", m_BadText___init__, ["__class__"], []⟩,
  ⟨A_f_Words___init__, "__init__", "Words.__init__", m_Words___init__, [], ([.int 0] : List V)⟩,
  ⟨A_f_Words_refuse, "refuse", "Words.refuse", m_Words_refuse, [], ([.non] : List V)⟩,
  ⟨A_f_Words_is_over, "is_over", "Words.is_over", m_Words_is_over, [], []⟩,
  ⟨A_f_Words_upcoming, "upcoming", "Words.upcoming", m_Words_upcoming, [], []⟩,
  ⟨A_f_Words_skip, "skip", "Words.skip", m_Words_skip, [], []⟩,
  ⟨A_f_Words_take_of, "take_of", "Words.take_of", m_Words_take_of, [], []⟩,
  ⟨A_f_Words_take_name, "take_name", "Words.take_name", m_Words_take_name, [], []⟩,
  ⟨A_f_Words_take_number, "take_number", "Words.take_number", m_Words_take_number, [], ([.non] : List V)⟩,
  ⟨A_f_Words_close, "close", "Words.close", m_Words_close, [], []⟩,
  ⟨A_f_Tie___init__, "__init__", "Tie.__init__", m_Tie___init__, [], []⟩]
def fq1 : List Fq := [
  ⟨A_f_Numbered___init__, "__init__", "Numbered.__init__", m_Numbered___init__, [], []⟩,
  ⟨A_f_BadNumber___init__, "__init__", "BadNumber.__init__", m_BadNumber___init__, ["__class__"], []⟩,
  ⟨A_f_Back___init__, "__init__", "Back.__init__", m_Back___init__, [], []⟩,
  ⟨A_f_Ahead___init__, "__init__", "Ahead.__init__", m_Ahead___init__, [], []⟩,
  ⟨A_f_Back___str__, "__str__", "Back.__str__", m_Back___str__, [], []⟩,
  ⟨A_f_Ahead___str__, "__str__", "Ahead.__str__", m_Ahead___str__, [], []⟩,
  ⟨A_f_Sofar___str__, "__str__", "Sofar.__str__", m_Sofar___str__, [], []⟩,
  ⟨A_f_Whole___str__, "__str__", "Whole.__str__", m_Whole___str__, [], []⟩,
  ⟨A_f_Last___str__, "__str__", "Last.__str__", m_Last___str__, [], []⟩,
  ⟨A_f_Same___str__, "__str__", "Same.__str__", m_Same___str__, [], []⟩,
  ⟨A_f_Tie___eq__, "__eq__", "Tie.__eq__", m_Tie___eq__, [], []⟩,
  ⟨A_f__law_tie, "_law_tie", "_law_tie", s__law_tie, [], []⟩,
  ⟨A_f__law_plain, "_law_plain", "_law_plain", s__law_plain, [], []⟩,
  ⟨A_f_take_tie, "take_tie", "take_tie", s_take_tie, [], []⟩,
  ⟨A_f_Tie_read, "read", "Tie.read", m_Tie_read, [], []⟩,
  ⟨A_f_BadText___init__, "__init__", "BadText.__init__", m_BadText___init__, ["__class__"], []⟩,
  ⟨A_f__law_heard, "_law_heard", "_law_heard", s__law_heard, [], []⟩,
  ⟨A_f__law_wrong, "_law_wrong", "_law_wrong", s__law_wrong, [], []⟩,
  ⟨A_f__law_bent, "_law_bent", "_law_bent", s__law_bent, [], []⟩,
  ⟨A_f_law, "law", "law", s_law, [], []⟩]
def fqs : List (List Fq) := [fq0, fq1]
def tbs (K : PySem.W.Frag) : List Addr := [(A_P_law K)]
def Z : Hd := ⟨fxs, fqs, tbs⟩
def nm0 : List PySem.Str := [Str.ofString "_wall", Str.ofString "DayError", Str.ofString "BadNumber", Str.ofString "BadName", Str.ofString "BadText", Str.ofString "LETTERS", Str.ofString "FIGURES", Str.ofString "MOST_LETTERS", Str.ofString "MOST_FIGURES", Str.ofString "is_integer", Str.ofString "is_within", Str.ofString "is_name", Str.ofString "need_name", Str.ofString "number_in", Str.ofString "Words", Str.ofString "MOST_OFFSET", Str.ofString "TIE_WORDS", Str.ofString "take_tie", Str.ofString "Tie", Str.ofString "Numbered", Str.ofString "Back", Str.ofString "Ahead", Str.ofString "Sofar", Str.ofString "Whole", Str.ofString "Last", Str.ofString "Same", Str.ofString "_law_pen", Str.ofString "_law_draw", Str.ofString "_law_pick", Str.ofString "_law_tie"]
def nm1 : List PySem.Str := [Str.ofString "_law_plain", Str.ofString "_law_heard", Str.ofString "_law_wrong", Str.ofString "_law_bent"]
def nms : List PySem.Str := nm0 ++ (nm1)
abbrev R : PySem.W.OpenRow := PySem.W.OpenLaw.row PySem.Challenge.rw_remadedays_k20_ties_written_and_read
theorem run (w : World) : HandSHeadRun.RunEq R (PySem.W.view R.prog [39]) Z.hook Z.ob 200000 nms w := by
  intro os
  kernel_rfl
end K20
namespace K20
open PySem PySem.Spec PyProof.Rows L2 DL
/- the stepping words -/
local macro_rules | `(tactic| fold_at mem) => `(tactic| ((repeat (first | (show List.Mem _ (_ :: _); with_reducible exact List.Mem.head _) | refine List.Mem.tail _ ?_)); done))
local macro_rules | `(tactic| fold_at at_) => `(tactic| ((repeat (first | with_reducible exact At.here | with_reducible apply At.there))))
local macro_rules | `(tactic| fold_at up) => `(tactic| ((repeat (first | with_reducible exact Up.here | with_reducible apply Up.there))))
local macro_rules | `(tactic| fold_at oat) => `(tactic| ((repeat (first | with_reducible exact OAt.here | with_reducible apply OAt.there))))
local macro_rules | `(tactic| fold_at oup) => `(tactic| ((repeat (first | with_reducible exact OUp.here | with_reducible apply OUp.there))))
local macro_rules | `(tactic| fold_at otk) => `(tactic| ((repeat (first | with_reducible exact OTk.here | with_reducible apply OTk.there))))
local macro_rules | `(tactic| fold_at sq) => `(tactic| ((first | with_reducible exact SqLs.lst | with_reducible exact SqLs.klst | ((with_reducible apply SqLs.own); (repeat (first | with_reducible exact OAt.here | with_reducible apply OAt.there)); done) | with_reducible exact Sq.l SqLs.lst | with_reducible exact Sq.l SqLs.klst | ((with_reducible apply Sq.l; with_reducible apply SqLs.own); (repeat (first | with_reducible exact OAt.here | with_reducible apply OAt.there)); done) | with_reducible exact Sq.t SqTs.tup | with_reducible exact Sq.t SqTs.ktup | with_reducible exact SqO.lst | ((with_reducible apply SqO.own); (repeat (first | with_reducible exact OAt.here | with_reducible apply OAt.there)); done) | with_reducible exact SqTs.tup | with_reducible exact SqTs.ktup)))
local macro_rules | `(tactic| fold_at go) => `(tactic| ((repeat (first | ((with_reducible apply kE); (first | ((with_reducible apply we_name); (· (repeat (first | (show List.Mem _ (_ :: _); with_reducible exact List.Mem.head _) | refine List.Mem.tail _ ?_)); done); (· (repeat (first | with_reducible exact At.here | with_reducible apply At.there)); done)) | with_reducible apply we_int | with_reducible apply we_bin | ((with_reducible apply kNm); (first | ((with_reducible apply wn_gi); (· assumption); (· (repeat (first | (show List.Mem _ (_ :: _); with_reducible exact List.Mem.head _) | refine List.Mem.tail _ ?_)); done)) | ((with_reducible apply wn_cls); (· assumption); (· (repeat (first | (show List.Mem _ (_ :: _); with_reducible exact List.Mem.head _) | refine List.Mem.tail _ ?_)); done)) | ((with_reducible apply wn_int); (· assumption); (· (repeat (first | (show List.Mem _ (_ :: _); with_reducible exact List.Mem.head _) | refine List.Mem.tail _ ?_)); done)) | ((with_reducible apply wn_bool); (· assumption); (· (repeat (first | (show List.Mem _ (_ :: _); with_reducible exact List.Mem.head _) | refine List.Mem.tail _ ?_)); done)) | ((with_reducible apply wn_list); (· assumption); (· (repeat (first | (show List.Mem _ (_ :: _); with_reducible exact List.Mem.head _) | refine List.Mem.tail _ ?_)); done)) | ((with_reducible apply wn_tuple); (· assumption); (· (repeat (first | (show List.Mem _ (_ :: _); with_reducible exact List.Mem.head _) | refine List.Mem.tail _ ?_)); done)) | ((with_reducible apply wn_str); (· assumption); (· (repeat (first | (show List.Mem _ (_ :: _); with_reducible exact List.Mem.head _) | refine List.Mem.tail _ ?_)); done)) | ((with_reducible apply wn_dict); (· assumption); (· (repeat (first | (show List.Mem _ (_ :: _); with_reducible exact List.Mem.head _) | refine List.Mem.tail _ ?_)); done)))) | ((with_reducible apply kCall); (first | ((with_reducible apply wb_int); (· assumption)) | ((with_reducible apply wb_len); (· assumption)) | ((with_reducible apply we_def); (· assumption); (· exact Nat.le_of_ble_eq_true rfl)) | ((with_reducible apply wb_abs); (· assumption)) | ((with_reducible apply wb_list); (· assumption)) | ((with_reducible apply wb_tuple); (· assumption)) | ((with_reducible apply wb_isinstance); (· assumption)) | ((with_reducible apply wb_sum); (· assumption)) | ((with_reducible apply wb_repr); (· assumption)) | ((with_reducible apply wb_str); (· assumption)) | ((with_reducible apply wb_sorted); (· assumption)) | ((with_reducible apply wb_dict); (· assumption)) | ((with_reducible apply wb_max); (· assumption)) | ((with_reducible apply wb_min); (· assumption)) | ((with_reducible apply wb_all); (· assumption)) | ((with_reducible apply wb_any); (· assumption)) | ((with_reducible apply wb_bool); (· assumption)) | ((with_reducible apply wb_iter); (· assumption)) | ((with_reducible apply wb_set); (· assumption)) | ((with_reducible apply wb_zip); (· assumption))); (· (repeat (first | (show List.Mem _ (_ :: _); with_reducible exact List.Mem.head _) | refine List.Mem.tail _ ?_)); done); (· intro _; rfl); (· intro _; rfl)) | ((with_reducible apply we_ix); (· intro _ _; rfl)) | ((with_reducible apply we_cmp); (· rfl)) | with_reducible apply we_bool | with_reducible apply we_none | with_reducible apply we_str | with_reducible apply we_not | with_reducible apply we_un | with_reducible apply we_sl | with_reducible apply we_if | with_reducible apply we_tup | with_reducible apply we_and | with_reducible apply we_or | ((with_reducible apply we_chain); (· rfl)))) | ((with_reducible apply kW); (first | with_reducible apply ow_add | with_reducible apply ow_sub | with_reducible apply ow_lt | with_reducible apply ow_le | with_reducible apply ow_gt | with_reducible apply ow_ge | with_reducible apply ow_eqI | with_reducible apply ow_neI | with_reducible apply ow_is | with_reducible apply ow_isnot)) | (with_reducible refine ⟨_, rfl, ?_⟩) | ((with_reducible apply kA); (first | ((with_reducible apply wa_cons); (· intro _; rfl)) | with_reducible apply wa_nil)) | ((with_reducible apply kB); (first | with_reducible apply bf_int | ((with_reducible apply bf_len); (· (first | with_reducible exact SqLs.lst | with_reducible exact SqLs.klst | ((with_reducible apply SqLs.own); (repeat (first | with_reducible exact OAt.here | with_reducible apply OAt.there)); done) | with_reducible exact Sq.l SqLs.lst | with_reducible exact Sq.l SqLs.klst | ((with_reducible apply Sq.l; with_reducible apply SqLs.own); (repeat (first | with_reducible exact OAt.here | with_reducible apply OAt.there)); done) | with_reducible exact Sq.t SqTs.tup | with_reducible exact Sq.t SqTs.ktup | with_reducible exact SqO.lst | ((with_reducible apply SqO.own); (repeat (first | with_reducible exact OAt.here | with_reducible apply OAt.there)); done) | with_reducible exact SqTs.tup | with_reducible exact SqTs.ktup))) | with_reducible apply bf_abs | with_reducible apply bf_intB | ((with_reducible apply bf_list); (· (first | with_reducible exact SqLs.lst | with_reducible exact SqLs.klst | ((with_reducible apply SqLs.own); (repeat (first | with_reducible exact OAt.here | with_reducible apply OAt.there)); done) | with_reducible exact Sq.l SqLs.lst | with_reducible exact Sq.l SqLs.klst | ((with_reducible apply Sq.l; with_reducible apply SqLs.own); (repeat (first | with_reducible exact OAt.here | with_reducible apply OAt.there)); done) | with_reducible exact Sq.t SqTs.tup | with_reducible exact Sq.t SqTs.ktup | with_reducible exact SqO.lst | ((with_reducible apply SqO.own); (repeat (first | with_reducible exact OAt.here | with_reducible apply OAt.there)); done) | with_reducible exact SqTs.tup | with_reducible exact SqTs.ktup))) | ((with_reducible apply bf_tuple); (· (first | with_reducible exact SqLs.lst | with_reducible exact SqLs.klst | ((with_reducible apply SqLs.own); (repeat (first | with_reducible exact OAt.here | with_reducible apply OAt.there)); done) | with_reducible exact Sq.l SqLs.lst | with_reducible exact Sq.l SqLs.klst | ((with_reducible apply Sq.l; with_reducible apply SqLs.own); (repeat (first | with_reducible exact OAt.here | with_reducible apply OAt.there)); done) | with_reducible exact Sq.t SqTs.tup | with_reducible exact Sq.t SqTs.ktup | with_reducible exact SqO.lst | ((with_reducible apply SqO.own); (repeat (first | with_reducible exact OAt.here | with_reducible apply OAt.there)); done) | with_reducible exact SqTs.tup | with_reducible exact SqTs.ktup))) | ((with_reducible apply bf_sum); (· (first | with_reducible exact SqLs.lst | with_reducible exact SqLs.klst | ((with_reducible apply SqLs.own); (repeat (first | with_reducible exact OAt.here | with_reducible apply OAt.there)); done) | with_reducible exact Sq.l SqLs.lst | with_reducible exact Sq.l SqLs.klst | ((with_reducible apply Sq.l; with_reducible apply SqLs.own); (repeat (first | with_reducible exact OAt.here | with_reducible apply OAt.there)); done) | with_reducible exact Sq.t SqTs.tup | with_reducible exact Sq.t SqTs.ktup | with_reducible exact SqO.lst | ((with_reducible apply SqO.own); (repeat (first | with_reducible exact OAt.here | with_reducible apply OAt.there)); done) | with_reducible exact SqTs.tup | with_reducible exact SqTs.ktup))) | ((with_reducible apply bf_sumT); (· (first | with_reducible exact SqLs.lst | with_reducible exact SqLs.klst | ((with_reducible apply SqLs.own); (repeat (first | with_reducible exact OAt.here | with_reducible apply OAt.there)); done) | with_reducible exact Sq.l SqLs.lst | with_reducible exact Sq.l SqLs.klst | ((with_reducible apply Sq.l; with_reducible apply SqLs.own); (repeat (first | with_reducible exact OAt.here | with_reducible apply OAt.there)); done) | with_reducible exact Sq.t SqTs.tup | with_reducible exact Sq.t SqTs.ktup | with_reducible exact SqO.lst | ((with_reducible apply SqO.own); (repeat (first | with_reducible exact OAt.here | with_reducible apply OAt.there)); done) | with_reducible exact SqTs.tup | with_reducible exact SqTs.ktup))))) | ((with_reducible apply kT); (first | ((with_reducible apply wt_cmp); (· rfl)) | with_reducible apply wt_not | ((with_reducible apply wt_of_u); (first | with_reducible apply wu_and | with_reducible apply wu_or | with_reducible apply wu_and1 | with_reducible apply wu_or1)) | ((with_reducible apply wt_truth); (· intro _ _; rfl)))) | ((with_reducible apply kU); (first | with_reducible apply wu_and | with_reducible apply wu_or | with_reducible apply wu_and1 | with_reducible apply wu_or1)) | ((with_reducible apply kO); (first | with_reducible apply wo_none | with_reducible apply wo_some)) | with_reducible apply nw_neg | (first | ((with_reducible apply we_mth); (· assumption); (· assumption); (· exact Nat.le_of_ble_eq_true rfl); (· intro _; rfl); (· intro _; rfl); (· intro _; rfl)) | ((with_reducible apply we_mth0); (· assumption); (· assumption); (· exact Nat.le_of_ble_eq_true rfl); (· intro _; rfl)) | ((with_reducible apply we_mthK); (· assumption); (· assumption); (· exact Nat.le_of_ble_eq_true rfl); (· intro _; rfl); (· intro _; rfl); (· intro _; rfl); (· intro _; rfl)) | ((with_reducible apply we_cmt); (· assumption); (· exact Nat.le_of_ble_eq_true rfl); (· intro _; rfl); (· intro _; rfl); (· intro _; rfl))) | (first | ((with_reducible apply wf_len); (· assumption); (· intro _; rfl)) | ((with_reducible apply wf_tot); (· assumption); (· intro _; rfl)) | ((with_reducible apply wf_idx); (· assumption); (· intro _; rfl)) | ((with_reducible apply we_prp); (· assumption); (· assumption); (· exact Nat.le_of_ble_eq_true rfl); (· intro _; rfl))) | (with_reducible refine ⟨_, Ins.ins, cyc_lk (by decide +kernel), ?_⟩) | ((with_reducible apply kK); (first | with_reducible apply wk_cons | with_reducible apply wk_nil))))))
local macro_rules | `(tactic| fold_at cs) => `(tactic| ((repeat (first | ((with_reducible apply kE); (first | ((with_reducible apply we_name); (· (repeat (first | (show List.Mem _ (_ :: _); with_reducible exact List.Mem.head _) | refine List.Mem.tail _ ?_)); done); (· (repeat (first | with_reducible exact At.here | with_reducible apply At.there)); done)) | with_reducible apply we_int | with_reducible apply we_bin | ((with_reducible apply kNm); (first | ((with_reducible apply wn_gi); (· assumption); (· (repeat (first | (show List.Mem _ (_ :: _); with_reducible exact List.Mem.head _) | refine List.Mem.tail _ ?_)); done)) | ((with_reducible apply wn_cls); (· assumption); (· (repeat (first | (show List.Mem _ (_ :: _); with_reducible exact List.Mem.head _) | refine List.Mem.tail _ ?_)); done)) | ((with_reducible apply wn_int); (· assumption); (· (repeat (first | (show List.Mem _ (_ :: _); with_reducible exact List.Mem.head _) | refine List.Mem.tail _ ?_)); done)) | ((with_reducible apply wn_bool); (· assumption); (· (repeat (first | (show List.Mem _ (_ :: _); with_reducible exact List.Mem.head _) | refine List.Mem.tail _ ?_)); done)) | ((with_reducible apply wn_list); (· assumption); (· (repeat (first | (show List.Mem _ (_ :: _); with_reducible exact List.Mem.head _) | refine List.Mem.tail _ ?_)); done)) | ((with_reducible apply wn_tuple); (· assumption); (· (repeat (first | (show List.Mem _ (_ :: _); with_reducible exact List.Mem.head _) | refine List.Mem.tail _ ?_)); done)) | ((with_reducible apply wn_str); (· assumption); (· (repeat (first | (show List.Mem _ (_ :: _); with_reducible exact List.Mem.head _) | refine List.Mem.tail _ ?_)); done)) | ((with_reducible apply wn_dict); (· assumption); (· (repeat (first | (show List.Mem _ (_ :: _); with_reducible exact List.Mem.head _) | refine List.Mem.tail _ ?_)); done)))) | ((with_reducible apply kCall); (first | ((with_reducible apply wb_int); (· assumption)) | ((with_reducible apply wb_len); (· assumption)) | ((with_reducible apply we_def); (· assumption); (· exact Nat.le_of_ble_eq_true rfl)) | ((with_reducible apply wb_abs); (· assumption)) | ((with_reducible apply wb_list); (· assumption)) | ((with_reducible apply wb_tuple); (· assumption)) | ((with_reducible apply wb_isinstance); (· assumption)) | ((with_reducible apply wb_sum); (· assumption)) | ((with_reducible apply wb_repr); (· assumption)) | ((with_reducible apply wb_str); (· assumption)) | ((with_reducible apply wb_sorted); (· assumption)) | ((with_reducible apply wb_dict); (· assumption)) | ((with_reducible apply wb_max); (· assumption)) | ((with_reducible apply wb_min); (· assumption)) | ((with_reducible apply wb_all); (· assumption)) | ((with_reducible apply wb_any); (· assumption)) | ((with_reducible apply wb_bool); (· assumption)) | ((with_reducible apply wb_iter); (· assumption)) | ((with_reducible apply wb_set); (· assumption)) | ((with_reducible apply wb_zip); (· assumption))); (· (repeat (first | (show List.Mem _ (_ :: _); with_reducible exact List.Mem.head _) | refine List.Mem.tail _ ?_)); done); (· intro _; rfl); (· intro _; rfl)) | ((with_reducible apply we_ix); (· intro _ _; rfl)) | ((with_reducible apply we_cmp); (· rfl)) | with_reducible apply we_bool | with_reducible apply we_none | with_reducible apply we_str | with_reducible apply we_not | with_reducible apply we_un | with_reducible apply we_sl | with_reducible apply we_if | with_reducible apply we_tup | with_reducible apply we_and | with_reducible apply we_or | ((with_reducible apply we_chain); (· rfl)))) | ((with_reducible apply kW); (first | with_reducible apply ow_add | with_reducible apply ow_sub | with_reducible apply ow_lt | with_reducible apply ow_le | with_reducible apply ow_gt | with_reducible apply ow_ge | with_reducible apply ow_eqI | with_reducible apply ow_neI | with_reducible apply ow_is | with_reducible apply ow_isnot)) | (with_reducible refine ⟨_, rfl, ?_⟩) | ((with_reducible apply kA); (first | ((with_reducible apply wa_cons); (· intro _; rfl)) | with_reducible apply wa_nil)) | ((with_reducible apply kB); (first | with_reducible apply bf_int | ((with_reducible apply bf_len); (· (first | with_reducible exact SqLs.lst | with_reducible exact SqLs.klst | ((with_reducible apply SqLs.own); (repeat (first | with_reducible exact OAt.here | with_reducible apply OAt.there)); done) | with_reducible exact Sq.l SqLs.lst | with_reducible exact Sq.l SqLs.klst | ((with_reducible apply Sq.l; with_reducible apply SqLs.own); (repeat (first | with_reducible exact OAt.here | with_reducible apply OAt.there)); done) | with_reducible exact Sq.t SqTs.tup | with_reducible exact Sq.t SqTs.ktup | with_reducible exact SqO.lst | ((with_reducible apply SqO.own); (repeat (first | with_reducible exact OAt.here | with_reducible apply OAt.there)); done) | with_reducible exact SqTs.tup | with_reducible exact SqTs.ktup))) | with_reducible apply bf_abs | with_reducible apply bf_intB | ((with_reducible apply bf_list); (· (first | with_reducible exact SqLs.lst | with_reducible exact SqLs.klst | ((with_reducible apply SqLs.own); (repeat (first | with_reducible exact OAt.here | with_reducible apply OAt.there)); done) | with_reducible exact Sq.l SqLs.lst | with_reducible exact Sq.l SqLs.klst | ((with_reducible apply Sq.l; with_reducible apply SqLs.own); (repeat (first | with_reducible exact OAt.here | with_reducible apply OAt.there)); done) | with_reducible exact Sq.t SqTs.tup | with_reducible exact Sq.t SqTs.ktup | with_reducible exact SqO.lst | ((with_reducible apply SqO.own); (repeat (first | with_reducible exact OAt.here | with_reducible apply OAt.there)); done) | with_reducible exact SqTs.tup | with_reducible exact SqTs.ktup))) | ((with_reducible apply bf_tuple); (· (first | with_reducible exact SqLs.lst | with_reducible exact SqLs.klst | ((with_reducible apply SqLs.own); (repeat (first | with_reducible exact OAt.here | with_reducible apply OAt.there)); done) | with_reducible exact Sq.l SqLs.lst | with_reducible exact Sq.l SqLs.klst | ((with_reducible apply Sq.l; with_reducible apply SqLs.own); (repeat (first | with_reducible exact OAt.here | with_reducible apply OAt.there)); done) | with_reducible exact Sq.t SqTs.tup | with_reducible exact Sq.t SqTs.ktup | with_reducible exact SqO.lst | ((with_reducible apply SqO.own); (repeat (first | with_reducible exact OAt.here | with_reducible apply OAt.there)); done) | with_reducible exact SqTs.tup | with_reducible exact SqTs.ktup))) | ((with_reducible apply bf_sum); (· (first | with_reducible exact SqLs.lst | with_reducible exact SqLs.klst | ((with_reducible apply SqLs.own); (repeat (first | with_reducible exact OAt.here | with_reducible apply OAt.there)); done) | with_reducible exact Sq.l SqLs.lst | with_reducible exact Sq.l SqLs.klst | ((with_reducible apply Sq.l; with_reducible apply SqLs.own); (repeat (first | with_reducible exact OAt.here | with_reducible apply OAt.there)); done) | with_reducible exact Sq.t SqTs.tup | with_reducible exact Sq.t SqTs.ktup | with_reducible exact SqO.lst | ((with_reducible apply SqO.own); (repeat (first | with_reducible exact OAt.here | with_reducible apply OAt.there)); done) | with_reducible exact SqTs.tup | with_reducible exact SqTs.ktup))) | ((with_reducible apply bf_sumT); (· (first | with_reducible exact SqLs.lst | with_reducible exact SqLs.klst | ((with_reducible apply SqLs.own); (repeat (first | with_reducible exact OAt.here | with_reducible apply OAt.there)); done) | with_reducible exact Sq.l SqLs.lst | with_reducible exact Sq.l SqLs.klst | ((with_reducible apply Sq.l; with_reducible apply SqLs.own); (repeat (first | with_reducible exact OAt.here | with_reducible apply OAt.there)); done) | with_reducible exact Sq.t SqTs.tup | with_reducible exact Sq.t SqTs.ktup | with_reducible exact SqO.lst | ((with_reducible apply SqO.own); (repeat (first | with_reducible exact OAt.here | with_reducible apply OAt.there)); done) | with_reducible exact SqTs.tup | with_reducible exact SqTs.ktup))))) | ((with_reducible apply kT); (first | ((with_reducible apply wt_cmp); (· rfl)) | with_reducible apply wt_not | ((with_reducible apply wt_of_u); (first | with_reducible apply wu_and | with_reducible apply wu_or | with_reducible apply wu_and1 | with_reducible apply wu_or1)) | ((with_reducible apply wt_truth); (· intro _ _; rfl)))) | ((with_reducible apply kU); (first | with_reducible apply wu_and | with_reducible apply wu_or | with_reducible apply wu_and1 | with_reducible apply wu_or1)) | ((with_reducible apply kO); (first | with_reducible apply wo_none | with_reducible apply wo_some)) | with_reducible apply nw_neg | (first | ((with_reducible apply we_mth); (· assumption); (· assumption); (· exact Nat.le_of_ble_eq_true rfl); (· intro _; rfl); (· intro _; rfl); (· intro _; rfl)) | ((with_reducible apply we_mth0); (· assumption); (· assumption); (· exact Nat.le_of_ble_eq_true rfl); (· intro _; rfl)) | ((with_reducible apply we_mthK); (· assumption); (· assumption); (· exact Nat.le_of_ble_eq_true rfl); (· intro _; rfl); (· intro _; rfl); (· intro _; rfl); (· intro _; rfl)) | ((with_reducible apply we_cmt); (· assumption); (· exact Nat.le_of_ble_eq_true rfl); (· intro _; rfl); (· intro _; rfl); (· intro _; rfl))) | (first | ((with_reducible apply wf_len); (· assumption); (· intro _; rfl)) | ((with_reducible apply wf_tot); (· assumption); (· intro _; rfl)) | ((with_reducible apply wf_idx); (· assumption); (· intro _; rfl)) | ((with_reducible apply we_prp); (· assumption); (· assumption); (· exact Nat.le_of_ble_eq_true rfl); (· intro _; rfl))) | (with_reducible refine ⟨_, Ins.ins, cyc_lk (by decide +kernel), ?_⟩) | ((with_reducible apply kK); (first | with_reducible apply wk_cons | with_reducible apply wk_nil)) | (refine ow_mod (by first | assumption | omega) ?_) | (refine ow_mul (by first | exact .inl (by omega) | exact .inr (by omega)) ?_) | (refine ow_pow (by first | exact ⟨by omega, by omega, by omega⟩ | assumption) ?_) | (refine ow_fdiv (by first | exact ⟨by omega, by decide⟩ | assumption) ?_)))))
local macro_rules | `(tactic| fold_at st) => `(tactic| ((first | (refine wss_step ?_; intro P; (first | ((with_reducible apply ws_set); (· intro _; rfl); (· (repeat (first | (show List.Mem _ (_ :: _); with_reducible exact List.Mem.head _) | refine List.Mem.tail _ ?_)); done)) | with_reducible apply ws_ret | with_reducible apply ws_if | ((with_reducible apply ws_asg); (· intro _; rfl); (· intro _; rfl); (· intro _; rfl)) | ((with_reducible apply ws_raise); (· assumption); (· exact Nat.le_of_ble_eq_true rfl); (· (repeat (first | (show List.Mem _ (_ :: _); with_reducible exact List.Mem.head _) | refine List.Mem.tail _ ?_)); done); (· intro _; rfl); (· intro _; rfl); (· exact Nat.le_of_ble_eq_true rfl)) | ((with_reducible apply ws_expr); (· intro _; rfl)) | skip)) | refine wss_nil ?_)))
local macro_rules | `(tactic| fold_at ra) => `(tactic| (((with_reducible apply ws_raise); (· assumption); (· exact Nat.le_of_ble_eq_true rfl); (· (repeat (first | (show List.Mem _ (_ :: _); with_reducible exact List.Mem.head _) | refine List.Mem.tail _ ?_)); done); (· intro _; rfl); (· intro _; rfl); (· exact Nat.le_of_ble_eq_true rfl))))
local macro_rules | `(tactic| fold_at a1) => `(tactic| ((first | ((with_reducible apply kE); (first | ((with_reducible apply we_name); (· (repeat (first | (show List.Mem _ (_ :: _); with_reducible exact List.Mem.head _) | refine List.Mem.tail _ ?_)); done); (· (repeat (first | with_reducible exact At.here | with_reducible apply At.there)); done)) | with_reducible apply we_int | with_reducible apply we_bin | ((with_reducible apply kNm); (first | ((with_reducible apply wn_gi); (· assumption); (· (repeat (first | (show List.Mem _ (_ :: _); with_reducible exact List.Mem.head _) | refine List.Mem.tail _ ?_)); done)) | ((with_reducible apply wn_cls); (· assumption); (· (repeat (first | (show List.Mem _ (_ :: _); with_reducible exact List.Mem.head _) | refine List.Mem.tail _ ?_)); done)) | ((with_reducible apply wn_int); (· assumption); (· (repeat (first | (show List.Mem _ (_ :: _); with_reducible exact List.Mem.head _) | refine List.Mem.tail _ ?_)); done)) | ((with_reducible apply wn_bool); (· assumption); (· (repeat (first | (show List.Mem _ (_ :: _); with_reducible exact List.Mem.head _) | refine List.Mem.tail _ ?_)); done)) | ((with_reducible apply wn_list); (· assumption); (· (repeat (first | (show List.Mem _ (_ :: _); with_reducible exact List.Mem.head _) | refine List.Mem.tail _ ?_)); done)) | ((with_reducible apply wn_tuple); (· assumption); (· (repeat (first | (show List.Mem _ (_ :: _); with_reducible exact List.Mem.head _) | refine List.Mem.tail _ ?_)); done)) | ((with_reducible apply wn_str); (· assumption); (· (repeat (first | (show List.Mem _ (_ :: _); with_reducible exact List.Mem.head _) | refine List.Mem.tail _ ?_)); done)) | ((with_reducible apply wn_dict); (· assumption); (· (repeat (first | (show List.Mem _ (_ :: _); with_reducible exact List.Mem.head _) | refine List.Mem.tail _ ?_)); done)) | ((with_reducible apply wn_gs); (· assumption); (· (repeat (first | (show List.Mem _ (_ :: _); with_reducible exact List.Mem.head _) | refine List.Mem.tail _ ?_)); done)))) | ((with_reducible apply kCall); (first | ((with_reducible apply wb_int); (· assumption)) | ((with_reducible apply wb_len); (· assumption)) | ((with_reducible apply we_def); (· assumption); (· exact Nat.le_of_ble_eq_true rfl)) | ((with_reducible apply wb_abs); (· assumption)) | ((with_reducible apply wb_list); (· assumption)) | ((with_reducible apply wb_tuple); (· assumption)) | ((with_reducible apply wb_isinstance); (· assumption)) | ((with_reducible apply wb_sum); (· assumption)) | ((with_reducible apply wb_repr); (· assumption)) | ((with_reducible apply wb_str); (· assumption)) | ((with_reducible apply wb_sorted); (· assumption)) | ((with_reducible apply wb_dict); (· assumption)) | ((with_reducible apply wb_max); (· assumption)) | ((with_reducible apply wb_min); (· assumption)) | ((with_reducible apply wb_all); (· assumption)) | ((with_reducible apply wb_any); (· assumption)) | ((with_reducible apply wb_bool); (· assumption)) | ((with_reducible apply wb_iter); (· assumption)) | ((with_reducible apply wb_set); (· assumption)) | ((with_reducible apply wb_zip); (· assumption))); (· (repeat (first | (show List.Mem _ (_ :: _); with_reducible exact List.Mem.head _) | refine List.Mem.tail _ ?_)); done); (· intro _; rfl); (· intro _; rfl)) | ((with_reducible apply we_ix); (· intro _ _; rfl)) | ((with_reducible apply we_cmp); (· rfl)) | with_reducible apply we_bool | with_reducible apply we_none | with_reducible apply we_str | with_reducible apply we_not | with_reducible apply we_un | with_reducible apply we_sl | with_reducible apply we_if | with_reducible apply we_tup | with_reducible apply we_and | with_reducible apply we_or | with_reducible apply we_one | ((with_reducible apply we_chain); (· rfl)) | (with_reducible refine we_lst ?_) | with_reducible apply we_dct0 | (first | ((with_reducible apply we_mth); (· assumption); (· assumption); (· exact Nat.le_of_ble_eq_true rfl); (· intro _; rfl); (· intro _; rfl); (· intro _; rfl)) | ((with_reducible apply we_mth0); (· assumption); (· assumption); (· exact Nat.le_of_ble_eq_true rfl); (· intro _; rfl)) | ((with_reducible apply we_mthK); (· assumption); (· assumption); (· exact Nat.le_of_ble_eq_true rfl); (· intro _; rfl); (· intro _; rfl); (· intro _; rfl); (· intro _; rfl)) | ((with_reducible apply we_cmt); (· assumption); (· exact Nat.le_of_ble_eq_true rfl); (· intro _; rfl); (· intro _; rfl); (· intro _; rfl))) | (first | ((with_reducible apply wf_len); (· assumption); (· intro _; rfl)) | ((with_reducible apply wf_tot); (· assumption); (· intro _; rfl)) | ((with_reducible apply wf_idx); (· assumption); (· intro _; rfl)) | ((with_reducible apply we_prp); (· assumption); (· assumption); (· exact Nat.le_of_ble_eq_true rfl); (· intro _; rfl))) | (with_reducible refine we_join (fun _ => rfl) (fun _ => rfl) rfl (fun _ => rfl) ?_) | (with_reducible refine we_fld (fun _ => rfl) ?_) | (with_reducible refine we_fstr ?_))) | ((with_reducible apply kW); (first | with_reducible apply ow_add | with_reducible apply ow_sub | with_reducible apply ow_lt | with_reducible apply ow_le | with_reducible apply ow_gt | with_reducible apply ow_ge | with_reducible apply ow_eqI | with_reducible apply ow_neI | with_reducible apply ow_is | with_reducible apply ow_isnot | ((with_reducible apply ow_mod); (· first | assumption | omega)) | ((with_reducible apply ow_mul); (· first | exact .inl (by omega) | exact .inr (by omega))) | ((with_reducible apply ow_pow); (· first | exact ⟨by omega, by omega, by omega⟩ | assumption)) | ((with_reducible apply ow_fdiv); (· first | exact ⟨by omega, by decide⟩ | assumption)) | ((with_reducible apply ow_cat); (· (first | with_reducible exact SqLs.lst | with_reducible exact SqLs.klst | ((with_reducible apply SqLs.own); (repeat (first | with_reducible exact OAt.here | with_reducible apply OAt.there)); done) | with_reducible exact Sq.l SqLs.lst | with_reducible exact Sq.l SqLs.klst | ((with_reducible apply Sq.l; with_reducible apply SqLs.own); (repeat (first | with_reducible exact OAt.here | with_reducible apply OAt.there)); done) | with_reducible exact Sq.t SqTs.tup | with_reducible exact Sq.t SqTs.ktup | with_reducible exact SqO.lst | ((with_reducible apply SqO.own); (repeat (first | with_reducible exact OAt.here | with_reducible apply OAt.there)); done) | with_reducible exact SqTs.tup | with_reducible exact SqTs.ktup)); (· (first | with_reducible exact SqLs.lst | with_reducible exact SqLs.klst | ((with_reducible apply SqLs.own); (repeat (first | with_reducible exact OAt.here | with_reducible apply OAt.there)); done) | with_reducible exact Sq.l SqLs.lst | with_reducible exact Sq.l SqLs.klst | ((with_reducible apply Sq.l; with_reducible apply SqLs.own); (repeat (first | with_reducible exact OAt.here | with_reducible apply OAt.there)); done) | with_reducible exact Sq.t SqTs.tup | with_reducible exact Sq.t SqTs.ktup | with_reducible exact SqO.lst | ((with_reducible apply SqO.own); (repeat (first | with_reducible exact OAt.here | with_reducible apply OAt.there)); done) | with_reducible exact SqTs.tup | with_reducible exact SqTs.ktup)); (· exact sz (by first | (simp; done) | exact Nat.le_of_ble_eq_true rfl))) | ((with_reducible apply ow_eqS (t := true)); (· first | exact decide_eq_true rfl | decide +kernel)) | ((with_reducible apply ow_eqS (t := false)); (· first | exact decide_eq_true rfl | decide +kernel)) | ((with_reducible apply ow_neS (t := true)); (· first | exact decide_eq_true rfl | decide +kernel)) | ((with_reducible apply ow_neS (t := false)); (· first | exact decide_eq_true rfl | decide +kernel)) | ((with_reducible apply ow_inT (t := true)); (· rfl); (· first | exact .t .tup | exact .l .lst | exact .l .klst); (· rfl); (· decide +kernel)) | ((with_reducible apply ow_inT (t := false)); (· rfl); (· first | exact .t .tup | exact .l .lst | exact .l .klst); (· rfl); (· decide +kernel)) | ((with_reducible apply ow_notinT (t := true)); (· rfl); (· first | exact .t .tup | exact .l .lst | exact .l .klst); (· rfl); (· decide +kernel)) | ((with_reducible apply ow_notinT (t := false)); (· rfl); (· first | exact .t .tup | exact .l .lst | exact .l .klst); (· rfl); (· decide +kernel)) | ((with_reducible apply ow_eqDT (t := true)); (· decide +kernel); (· decide +kernel); (· decide +kernel)) | ((with_reducible apply ow_eqDT (t := false)); (· decide +kernel); (· decide +kernel); (· decide +kernel)) | ((with_reducible apply ow_neDT (t := true)); (· decide +kernel); (· decide +kernel); (· decide +kernel)) | ((with_reducible apply ow_neDT (t := false)); (· decide +kernel); (· decide +kernel); (· decide +kernel)))) | ((with_reducible apply kA); (first | ((with_reducible apply wa_cons); (· intro _; rfl)) | with_reducible apply wa_nil)) | ((with_reducible apply kEx); (first | (with_reducible refine Exists.intro _ (And.intro (by (repeat (first | with_reducible exact Up.here | with_reducible apply Up.there)); done) ?_)) | (with_reducible refine Exists.intro _ (And.intro rfl (And.intro (fun h => (by first | (cases h; done) | (with_unfolding_all exact Bool.noConfusion (show true = false from h)) | (with_unfolding_all exact Bool.noConfusion (show false = true from h)))) (fun _ => ?_)))) | (with_reducible refine Exists.intro _ (And.intro rfl (And.intro (fun _ => ?_) (fun h => (by first | (cases h; done) | (with_unfolding_all exact Bool.noConfusion (show true = false from h)) | (with_unfolding_all exact Bool.noConfusion (show false = true from h))))))) | (with_reducible refine ⟨_, rfl, ?_⟩) | (with_reducible refine Exists.intro _ (And.intro Tru.bl (And.intro (fun h => (by first | (cases h; done) | (with_unfolding_all exact Bool.noConfusion (show true = false from h)) | (with_unfolding_all exact Bool.noConfusion (show false = true from h)))) (fun _ => ?_)))) | (with_reducible refine Exists.intro _ (And.intro Tru.bl (And.intro (fun _ => ?_) (fun h => (by first | (cases h; done) | (with_unfolding_all exact Bool.noConfusion (show true = false from h)) | (with_unfolding_all exact Bool.noConfusion (show false = true from h))))))) | (with_reducible refine Exists.intro _ (And.intro Tru.non (And.intro (fun h => (by first | (cases h; done) | (with_unfolding_all exact Bool.noConfusion (show true = false from h)) | (with_unfolding_all exact Bool.noConfusion (show false = true from h)))) (fun _ => ?_)))) | (with_reducible refine Exists.intro _ (And.intro Tru.non (And.intro (fun _ => ?_) (fun h => (by first | (cases h; done) | (with_unfolding_all exact Bool.noConfusion (show true = false from h)) | (with_unfolding_all exact Bool.noConfusion (show false = true from h))))))) | (refine Exists.intro _ (Exists.intro _ (Exists.intro _ (And.intro (by (first | exact .t .tup | exact .l .lst | exact .l .klst | (first | with_reducible exact SqLs.lst | with_reducible exact SqLs.klst | ((with_reducible apply SqLs.own); (repeat (first | with_reducible exact OAt.here | with_reducible apply OAt.there)); done) | with_reducible exact Sq.l SqLs.lst | with_reducible exact Sq.l SqLs.klst | ((with_reducible apply Sq.l; with_reducible apply SqLs.own); (repeat (first | with_reducible exact OAt.here | with_reducible apply OAt.there)); done) | with_reducible exact Sq.t SqTs.tup | with_reducible exact Sq.t SqTs.ktup | with_reducible exact SqO.lst | ((with_reducible apply SqO.own); (repeat (first | with_reducible exact OAt.here | with_reducible apply OAt.there)); done) | with_reducible exact SqTs.tup | with_reducible exact SqTs.ktup))) (And.intro rfl (And.intro rfl ?_)))))) | (with_reducible refine ⟨_, Ins.ins, cyc_lk (by decide +kernel), ?_⟩) | (refine Exists.intro _ (And.intro (Ins.own (by first | assumption | ((repeat (first | assumption | with_reducible exact OAt.here | with_reducible apply OAt.there)); done))) (And.intro (ws_lk (by decide +kernel)) ?_))) | (with_reducible refine Exists.intro _ (Exists.intro _ (Exists.intro _ (Exists.intro _ (And.intro rfl (And.intro (by (repeat (first | with_reducible exact Up.here | with_reducible apply Up.there)); done) (And.intro (by (repeat (first | with_reducible exact Up.here | with_reducible apply Up.there)); done) ?_))))))) | (refine Exists.intro _ (Exists.intro _ (Exists.intro _ (And.intro (by first | exact Ins.ins | exact Ins.own (by first | assumption | ((repeat (first | assumption | with_reducible exact OAt.here | with_reducible apply OAt.there)); done))) (And.intro (by assumption) (And.intro (by assumption) (And.intro (by first | exact FAt.here | exact FAt.there rfl FAt.here | exact FAt.there rfl (FAt.there rfl FAt.here) | exact FAt.there rfl (FAt.there rfl (FAt.there rfl FAt.here))) ?_))))))))) | ((with_reducible apply kAn); (first | (with_reducible refine And.intro (sz (by first | (simp; done) | exact Nat.le_of_ble_eq_true rfl)) ?_) | (with_reducible refine And.intro (fun h => (by first | (cases h; done) | (with_unfolding_all exact Bool.noConfusion (show true = false from h)) | (with_unfolding_all exact Bool.noConfusion (show false = true from h)))) (fun _ => ?_)) | (with_reducible refine And.intro (fun _ => ?_) (fun h => (by first | (cases h; done) | (with_unfolding_all exact Bool.noConfusion (show true = false from h)) | (with_unfolding_all exact Bool.noConfusion (show false = true from h))))) | (with_reducible refine And.intro rfl ?_))) | ((with_reducible apply kB); (first | with_reducible apply bf_int | ((with_reducible apply bf_len); (· (first | with_reducible exact SqLs.lst | with_reducible exact SqLs.klst | ((with_reducible apply SqLs.own); (repeat (first | with_reducible exact OAt.here | with_reducible apply OAt.there)); done) | with_reducible exact Sq.l SqLs.lst | with_reducible exact Sq.l SqLs.klst | ((with_reducible apply Sq.l; with_reducible apply SqLs.own); (repeat (first | with_reducible exact OAt.here | with_reducible apply OAt.there)); done) | with_reducible exact Sq.t SqTs.tup | with_reducible exact Sq.t SqTs.ktup | with_reducible exact SqO.lst | ((with_reducible apply SqO.own); (repeat (first | with_reducible exact OAt.here | with_reducible apply OAt.there)); done) | with_reducible exact SqTs.tup | with_reducible exact SqTs.ktup))) | with_reducible apply bf_abs | with_reducible apply bf_intB | ((with_reducible apply bf_list); (· (first | with_reducible exact SqLs.lst | with_reducible exact SqLs.klst | ((with_reducible apply SqLs.own); (repeat (first | with_reducible exact OAt.here | with_reducible apply OAt.there)); done) | with_reducible exact Sq.l SqLs.lst | with_reducible exact Sq.l SqLs.klst | ((with_reducible apply Sq.l; with_reducible apply SqLs.own); (repeat (first | with_reducible exact OAt.here | with_reducible apply OAt.there)); done) | with_reducible exact Sq.t SqTs.tup | with_reducible exact Sq.t SqTs.ktup | with_reducible exact SqO.lst | ((with_reducible apply SqO.own); (repeat (first | with_reducible exact OAt.here | with_reducible apply OAt.there)); done) | with_reducible exact SqTs.tup | with_reducible exact SqTs.ktup))) | ((with_reducible apply bf_tuple); (· (first | with_reducible exact SqLs.lst | with_reducible exact SqLs.klst | ((with_reducible apply SqLs.own); (repeat (first | with_reducible exact OAt.here | with_reducible apply OAt.there)); done) | with_reducible exact Sq.l SqLs.lst | with_reducible exact Sq.l SqLs.klst | ((with_reducible apply Sq.l; with_reducible apply SqLs.own); (repeat (first | with_reducible exact OAt.here | with_reducible apply OAt.there)); done) | with_reducible exact Sq.t SqTs.tup | with_reducible exact Sq.t SqTs.ktup | with_reducible exact SqO.lst | ((with_reducible apply SqO.own); (repeat (first | with_reducible exact OAt.here | with_reducible apply OAt.there)); done) | with_reducible exact SqTs.tup | with_reducible exact SqTs.ktup))) | ((with_reducible apply bf_sum); (· (first | with_reducible exact SqLs.lst | with_reducible exact SqLs.klst | ((with_reducible apply SqLs.own); (repeat (first | with_reducible exact OAt.here | with_reducible apply OAt.there)); done) | with_reducible exact Sq.l SqLs.lst | with_reducible exact Sq.l SqLs.klst | ((with_reducible apply Sq.l; with_reducible apply SqLs.own); (repeat (first | with_reducible exact OAt.here | with_reducible apply OAt.there)); done) | with_reducible exact Sq.t SqTs.tup | with_reducible exact Sq.t SqTs.ktup | with_reducible exact SqO.lst | ((with_reducible apply SqO.own); (repeat (first | with_reducible exact OAt.here | with_reducible apply OAt.there)); done) | with_reducible exact SqTs.tup | with_reducible exact SqTs.ktup))) | ((with_reducible apply bf_sumT); (· (first | with_reducible exact SqLs.lst | with_reducible exact SqLs.klst | ((with_reducible apply SqLs.own); (repeat (first | with_reducible exact OAt.here | with_reducible apply OAt.there)); done) | with_reducible exact Sq.l SqLs.lst | with_reducible exact Sq.l SqLs.klst | ((with_reducible apply Sq.l; with_reducible apply SqLs.own); (repeat (first | with_reducible exact OAt.here | with_reducible apply OAt.there)); done) | with_reducible exact Sq.t SqTs.tup | with_reducible exact Sq.t SqTs.ktup | with_reducible exact SqO.lst | ((with_reducible apply SqO.own); (repeat (first | with_reducible exact OAt.here | with_reducible apply OAt.there)); done) | with_reducible exact SqTs.tup | with_reducible exact SqTs.ktup))) | ((with_reducible apply bf_isi); (· first | assumption | exact TyD.non | exact TyD.bl | exact TyD.int | exact TyD.str | exact TyD.lst | exact TyD.tup | exact TyD.dct); (· first | exact ClD.ty | exact ClD.ref); (· assumption)) | with_reducible apply bf_strS | ((with_reducible apply bf_reprI); (· assumption)) | ((with_reducible apply bf_strI); (· assumption)))) | ((with_reducible apply kT); (first | ((with_reducible apply wt_cmp); (· rfl)) | with_reducible apply wt_not | ((with_reducible apply wt_of_u); (first | with_reducible apply wu_and | with_reducible apply wu_or | with_reducible apply wu_and1 | with_reducible apply wu_or1)) | ((with_reducible apply wt_chain); (· rfl)) | ((with_reducible apply wt_truth); (· intro _ _; rfl)))) | ((with_reducible apply kU); (first | with_reducible apply wu_and | with_reducible apply wu_or | with_reducible apply wu_and1 | with_reducible apply wu_or1)) | ((with_reducible apply kO); (first | with_reducible apply wo_none | with_reducible apply wo_some)) | ((with_reducible apply kK); (first | with_reducible apply wk_cons | with_reducible apply wk_nil)) | (first | (with_reducible refine wg_tup rfl (fun _ => rfl) (fun _ => rfl) ?_) | ((with_reducible apply wgs_cons); (· intro _; rfl)) | (with_reducible refine wgs_nil ?_) | ((with_reducible apply wg_name); (· (repeat (first | (show List.Mem _ (_ :: _); with_reducible exact List.Mem.head _) | refine List.Mem.tail _ ?_)); done); (· (repeat (first | with_reducible exact Up.here | with_reducible apply Up.there)); done))) | with_reducible apply nw_neg | (first | (refine wss_step ?_; intro P; (first | ((with_reducible apply ws_set); (· intro _; rfl); (· (repeat (first | (show List.Mem _ (_ :: _); with_reducible exact List.Mem.head _) | refine List.Mem.tail _ ?_)); done)) | with_reducible apply ws_ret | with_reducible apply ws_if | ((with_reducible apply ws_asg); (· intro _; rfl); (· intro _; rfl); (· intro _; rfl)) | ((with_reducible apply ws_asgS); (· intro _; rfl); (· intro env e; rcases env; cases e; rfl); (· intro _; rfl)) | ((with_reducible apply ws_par); (· decide); (· (repeat (first | (show List.Mem _ (_ :: _); with_reducible exact List.Mem.head _) | refine List.Mem.tail _ ?_)); done); (· (repeat (first | (show List.Mem _ (_ :: _); with_reducible exact List.Mem.head _) | refine List.Mem.tail _ ?_)); done); (· kernel_rfl); (· kernel_rfl); (· intro env e; rcases env; cases e; rfl); (· intro _; rfl)) | ((with_reducible apply ws_raise); (· assumption); (· exact Nat.le_of_ble_eq_true rfl); (· (repeat (first | (show List.Mem _ (_ :: _); with_reducible exact List.Mem.head _) | refine List.Mem.tail _ ?_)); done); (· intro _; rfl); (· intro _; rfl); (· exact Nat.le_of_ble_eq_true rfl)) | ((with_reducible apply ws_expr); (· intro _; rfl)) | skip)) | refine wss_nil ?_))))
local macro_rules | `(tactic| fold_at au) => `(tactic| ((repeat (first | ((with_reducible apply kE); (first | ((with_reducible apply we_name); (· (repeat (first | (show List.Mem _ (_ :: _); with_reducible exact List.Mem.head _) | refine List.Mem.tail _ ?_)); done); (· (repeat (first | with_reducible exact At.here | with_reducible apply At.there)); done)) | with_reducible apply we_int | with_reducible apply we_bin | ((with_reducible apply kNm); (first | ((with_reducible apply wn_gi); (· assumption); (· (repeat (first | (show List.Mem _ (_ :: _); with_reducible exact List.Mem.head _) | refine List.Mem.tail _ ?_)); done)) | ((with_reducible apply wn_cls); (· assumption); (· (repeat (first | (show List.Mem _ (_ :: _); with_reducible exact List.Mem.head _) | refine List.Mem.tail _ ?_)); done)) | ((with_reducible apply wn_int); (· assumption); (· (repeat (first | (show List.Mem _ (_ :: _); with_reducible exact List.Mem.head _) | refine List.Mem.tail _ ?_)); done)) | ((with_reducible apply wn_bool); (· assumption); (· (repeat (first | (show List.Mem _ (_ :: _); with_reducible exact List.Mem.head _) | refine List.Mem.tail _ ?_)); done)) | ((with_reducible apply wn_list); (· assumption); (· (repeat (first | (show List.Mem _ (_ :: _); with_reducible exact List.Mem.head _) | refine List.Mem.tail _ ?_)); done)) | ((with_reducible apply wn_tuple); (· assumption); (· (repeat (first | (show List.Mem _ (_ :: _); with_reducible exact List.Mem.head _) | refine List.Mem.tail _ ?_)); done)) | ((with_reducible apply wn_str); (· assumption); (· (repeat (first | (show List.Mem _ (_ :: _); with_reducible exact List.Mem.head _) | refine List.Mem.tail _ ?_)); done)) | ((with_reducible apply wn_dict); (· assumption); (· (repeat (first | (show List.Mem _ (_ :: _); with_reducible exact List.Mem.head _) | refine List.Mem.tail _ ?_)); done)) | ((with_reducible apply wn_gs); (· assumption); (· (repeat (first | (show List.Mem _ (_ :: _); with_reducible exact List.Mem.head _) | refine List.Mem.tail _ ?_)); done)))) | ((with_reducible apply kCall); (first | ((with_reducible apply wb_int); (· assumption)) | ((with_reducible apply wb_len); (· assumption)) | ((with_reducible apply we_def); (· assumption); (· exact Nat.le_of_ble_eq_true rfl)) | ((with_reducible apply wb_abs); (· assumption)) | ((with_reducible apply wb_list); (· assumption)) | ((with_reducible apply wb_tuple); (· assumption)) | ((with_reducible apply wb_isinstance); (· assumption)) | ((with_reducible apply wb_sum); (· assumption)) | ((with_reducible apply wb_repr); (· assumption)) | ((with_reducible apply wb_str); (· assumption)) | ((with_reducible apply wb_sorted); (· assumption)) | ((with_reducible apply wb_dict); (· assumption)) | ((with_reducible apply wb_max); (· assumption)) | ((with_reducible apply wb_min); (· assumption)) | ((with_reducible apply wb_all); (· assumption)) | ((with_reducible apply wb_any); (· assumption)) | ((with_reducible apply wb_bool); (· assumption)) | ((with_reducible apply wb_iter); (· assumption)) | ((with_reducible apply wb_set); (· assumption)) | ((with_reducible apply wb_zip); (· assumption))); (· (repeat (first | (show List.Mem _ (_ :: _); with_reducible exact List.Mem.head _) | refine List.Mem.tail _ ?_)); done); (· intro _; rfl); (· intro _; rfl)) | ((with_reducible apply we_ix); (· intro _ _; rfl)) | ((with_reducible apply we_cmp); (· rfl)) | with_reducible apply we_bool | with_reducible apply we_none | with_reducible apply we_str | with_reducible apply we_not | with_reducible apply we_un | with_reducible apply we_sl | with_reducible apply we_if | with_reducible apply we_tup | with_reducible apply we_and | with_reducible apply we_or | with_reducible apply we_one | ((with_reducible apply we_chain); (· rfl)) | (with_reducible refine we_lst ?_) | with_reducible apply we_dct0 | (first | ((with_reducible apply we_mth); (· assumption); (· assumption); (· exact Nat.le_of_ble_eq_true rfl); (· intro _; rfl); (· intro _; rfl); (· intro _; rfl)) | ((with_reducible apply we_mth0); (· assumption); (· assumption); (· exact Nat.le_of_ble_eq_true rfl); (· intro _; rfl)) | ((with_reducible apply we_mthK); (· assumption); (· assumption); (· exact Nat.le_of_ble_eq_true rfl); (· intro _; rfl); (· intro _; rfl); (· intro _; rfl); (· intro _; rfl)) | ((with_reducible apply we_cmt); (· assumption); (· exact Nat.le_of_ble_eq_true rfl); (· intro _; rfl); (· intro _; rfl); (· intro _; rfl))) | (first | ((with_reducible apply wf_len); (· assumption); (· intro _; rfl)) | ((with_reducible apply wf_tot); (· assumption); (· intro _; rfl)) | ((with_reducible apply wf_idx); (· assumption); (· intro _; rfl)) | ((with_reducible apply we_prp); (· assumption); (· assumption); (· exact Nat.le_of_ble_eq_true rfl); (· intro _; rfl))) | (with_reducible refine we_join (fun _ => rfl) (fun _ => rfl) rfl (fun _ => rfl) ?_) | (with_reducible refine we_fld (fun _ => rfl) ?_) | (with_reducible refine we_fstr ?_))) | ((with_reducible apply kW); (first | with_reducible apply ow_add | with_reducible apply ow_sub | with_reducible apply ow_lt | with_reducible apply ow_le | with_reducible apply ow_gt | with_reducible apply ow_ge | with_reducible apply ow_eqI | with_reducible apply ow_neI | with_reducible apply ow_is | with_reducible apply ow_isnot | ((with_reducible apply ow_mod); (· first | assumption | omega)) | ((with_reducible apply ow_mul); (· first | exact .inl (by omega) | exact .inr (by omega))) | ((with_reducible apply ow_pow); (· first | exact ⟨by omega, by omega, by omega⟩ | assumption)) | ((with_reducible apply ow_fdiv); (· first | exact ⟨by omega, by decide⟩ | assumption)) | ((with_reducible apply ow_cat); (· (first | with_reducible exact SqLs.lst | with_reducible exact SqLs.klst | ((with_reducible apply SqLs.own); (repeat (first | with_reducible exact OAt.here | with_reducible apply OAt.there)); done) | with_reducible exact Sq.l SqLs.lst | with_reducible exact Sq.l SqLs.klst | ((with_reducible apply Sq.l; with_reducible apply SqLs.own); (repeat (first | with_reducible exact OAt.here | with_reducible apply OAt.there)); done) | with_reducible exact Sq.t SqTs.tup | with_reducible exact Sq.t SqTs.ktup | with_reducible exact SqO.lst | ((with_reducible apply SqO.own); (repeat (first | with_reducible exact OAt.here | with_reducible apply OAt.there)); done) | with_reducible exact SqTs.tup | with_reducible exact SqTs.ktup)); (· (first | with_reducible exact SqLs.lst | with_reducible exact SqLs.klst | ((with_reducible apply SqLs.own); (repeat (first | with_reducible exact OAt.here | with_reducible apply OAt.there)); done) | with_reducible exact Sq.l SqLs.lst | with_reducible exact Sq.l SqLs.klst | ((with_reducible apply Sq.l; with_reducible apply SqLs.own); (repeat (first | with_reducible exact OAt.here | with_reducible apply OAt.there)); done) | with_reducible exact Sq.t SqTs.tup | with_reducible exact Sq.t SqTs.ktup | with_reducible exact SqO.lst | ((with_reducible apply SqO.own); (repeat (first | with_reducible exact OAt.here | with_reducible apply OAt.there)); done) | with_reducible exact SqTs.tup | with_reducible exact SqTs.ktup)); (· exact sz (by first | (simp; done) | exact Nat.le_of_ble_eq_true rfl))) | ((with_reducible apply ow_eqS (t := true)); (· first | exact decide_eq_true rfl | decide +kernel)) | ((with_reducible apply ow_eqS (t := false)); (· first | exact decide_eq_true rfl | decide +kernel)) | ((with_reducible apply ow_neS (t := true)); (· first | exact decide_eq_true rfl | decide +kernel)) | ((with_reducible apply ow_neS (t := false)); (· first | exact decide_eq_true rfl | decide +kernel)) | ((with_reducible apply ow_inT (t := true)); (· rfl); (· first | exact .t .tup | exact .l .lst | exact .l .klst); (· rfl); (· decide +kernel)) | ((with_reducible apply ow_inT (t := false)); (· rfl); (· first | exact .t .tup | exact .l .lst | exact .l .klst); (· rfl); (· decide +kernel)) | ((with_reducible apply ow_notinT (t := true)); (· rfl); (· first | exact .t .tup | exact .l .lst | exact .l .klst); (· rfl); (· decide +kernel)) | ((with_reducible apply ow_notinT (t := false)); (· rfl); (· first | exact .t .tup | exact .l .lst | exact .l .klst); (· rfl); (· decide +kernel)) | ((with_reducible apply ow_eqDT (t := true)); (· decide +kernel); (· decide +kernel); (· decide +kernel)) | ((with_reducible apply ow_eqDT (t := false)); (· decide +kernel); (· decide +kernel); (· decide +kernel)) | ((with_reducible apply ow_neDT (t := true)); (· decide +kernel); (· decide +kernel); (· decide +kernel)) | ((with_reducible apply ow_neDT (t := false)); (· decide +kernel); (· decide +kernel); (· decide +kernel)))) | ((with_reducible apply kA); (first | ((with_reducible apply wa_cons); (· intro _; rfl)) | with_reducible apply wa_nil)) | ((with_reducible apply kEx); (first | (with_reducible refine Exists.intro _ (And.intro (by (repeat (first | with_reducible exact Up.here | with_reducible apply Up.there)); done) ?_)) | (with_reducible refine Exists.intro _ (And.intro rfl (And.intro (fun h => (by first | (cases h; done) | (with_unfolding_all exact Bool.noConfusion (show true = false from h)) | (with_unfolding_all exact Bool.noConfusion (show false = true from h)))) (fun _ => ?_)))) | (with_reducible refine Exists.intro _ (And.intro rfl (And.intro (fun _ => ?_) (fun h => (by first | (cases h; done) | (with_unfolding_all exact Bool.noConfusion (show true = false from h)) | (with_unfolding_all exact Bool.noConfusion (show false = true from h))))))) | (with_reducible refine ⟨_, rfl, ?_⟩) | (with_reducible refine Exists.intro _ (And.intro Tru.bl (And.intro (fun h => (by first | (cases h; done) | (with_unfolding_all exact Bool.noConfusion (show true = false from h)) | (with_unfolding_all exact Bool.noConfusion (show false = true from h)))) (fun _ => ?_)))) | (with_reducible refine Exists.intro _ (And.intro Tru.bl (And.intro (fun _ => ?_) (fun h => (by first | (cases h; done) | (with_unfolding_all exact Bool.noConfusion (show true = false from h)) | (with_unfolding_all exact Bool.noConfusion (show false = true from h))))))) | (with_reducible refine Exists.intro _ (And.intro Tru.non (And.intro (fun h => (by first | (cases h; done) | (with_unfolding_all exact Bool.noConfusion (show true = false from h)) | (with_unfolding_all exact Bool.noConfusion (show false = true from h)))) (fun _ => ?_)))) | (with_reducible refine Exists.intro _ (And.intro Tru.non (And.intro (fun _ => ?_) (fun h => (by first | (cases h; done) | (with_unfolding_all exact Bool.noConfusion (show true = false from h)) | (with_unfolding_all exact Bool.noConfusion (show false = true from h))))))) | (refine Exists.intro _ (Exists.intro _ (Exists.intro _ (And.intro (by (first | exact .t .tup | exact .l .lst | exact .l .klst | (first | with_reducible exact SqLs.lst | with_reducible exact SqLs.klst | ((with_reducible apply SqLs.own); (repeat (first | with_reducible exact OAt.here | with_reducible apply OAt.there)); done) | with_reducible exact Sq.l SqLs.lst | with_reducible exact Sq.l SqLs.klst | ((with_reducible apply Sq.l; with_reducible apply SqLs.own); (repeat (first | with_reducible exact OAt.here | with_reducible apply OAt.there)); done) | with_reducible exact Sq.t SqTs.tup | with_reducible exact Sq.t SqTs.ktup | with_reducible exact SqO.lst | ((with_reducible apply SqO.own); (repeat (first | with_reducible exact OAt.here | with_reducible apply OAt.there)); done) | with_reducible exact SqTs.tup | with_reducible exact SqTs.ktup))) (And.intro rfl (And.intro rfl ?_)))))) | (with_reducible refine ⟨_, Ins.ins, cyc_lk (by decide +kernel), ?_⟩) | (refine Exists.intro _ (And.intro (Ins.own (by first | assumption | ((repeat (first | assumption | with_reducible exact OAt.here | with_reducible apply OAt.there)); done))) (And.intro (ws_lk (by decide +kernel)) ?_))) | (with_reducible refine Exists.intro _ (Exists.intro _ (Exists.intro _ (Exists.intro _ (And.intro rfl (And.intro (by (repeat (first | with_reducible exact Up.here | with_reducible apply Up.there)); done) (And.intro (by (repeat (first | with_reducible exact Up.here | with_reducible apply Up.there)); done) ?_))))))) | (refine Exists.intro _ (Exists.intro _ (Exists.intro _ (And.intro (by first | exact Ins.ins | exact Ins.own (by first | assumption | ((repeat (first | assumption | with_reducible exact OAt.here | with_reducible apply OAt.there)); done))) (And.intro (by assumption) (And.intro (by assumption) (And.intro (by first | exact FAt.here | exact FAt.there rfl FAt.here | exact FAt.there rfl (FAt.there rfl FAt.here) | exact FAt.there rfl (FAt.there rfl (FAt.there rfl FAt.here))) ?_))))))))) | ((with_reducible apply kAn); (first | (with_reducible refine And.intro (sz (by first | (simp; done) | exact Nat.le_of_ble_eq_true rfl)) ?_) | (with_reducible refine And.intro (fun h => (by first | (cases h; done) | (with_unfolding_all exact Bool.noConfusion (show true = false from h)) | (with_unfolding_all exact Bool.noConfusion (show false = true from h)))) (fun _ => ?_)) | (with_reducible refine And.intro (fun _ => ?_) (fun h => (by first | (cases h; done) | (with_unfolding_all exact Bool.noConfusion (show true = false from h)) | (with_unfolding_all exact Bool.noConfusion (show false = true from h))))) | (with_reducible refine And.intro rfl ?_))) | ((with_reducible apply kB); (first | with_reducible apply bf_int | ((with_reducible apply bf_len); (· (first | with_reducible exact SqLs.lst | with_reducible exact SqLs.klst | ((with_reducible apply SqLs.own); (repeat (first | with_reducible exact OAt.here | with_reducible apply OAt.there)); done) | with_reducible exact Sq.l SqLs.lst | with_reducible exact Sq.l SqLs.klst | ((with_reducible apply Sq.l; with_reducible apply SqLs.own); (repeat (first | with_reducible exact OAt.here | with_reducible apply OAt.there)); done) | with_reducible exact Sq.t SqTs.tup | with_reducible exact Sq.t SqTs.ktup | with_reducible exact SqO.lst | ((with_reducible apply SqO.own); (repeat (first | with_reducible exact OAt.here | with_reducible apply OAt.there)); done) | with_reducible exact SqTs.tup | with_reducible exact SqTs.ktup))) | with_reducible apply bf_abs | with_reducible apply bf_intB | ((with_reducible apply bf_list); (· (first | with_reducible exact SqLs.lst | with_reducible exact SqLs.klst | ((with_reducible apply SqLs.own); (repeat (first | with_reducible exact OAt.here | with_reducible apply OAt.there)); done) | with_reducible exact Sq.l SqLs.lst | with_reducible exact Sq.l SqLs.klst | ((with_reducible apply Sq.l; with_reducible apply SqLs.own); (repeat (first | with_reducible exact OAt.here | with_reducible apply OAt.there)); done) | with_reducible exact Sq.t SqTs.tup | with_reducible exact Sq.t SqTs.ktup | with_reducible exact SqO.lst | ((with_reducible apply SqO.own); (repeat (first | with_reducible exact OAt.here | with_reducible apply OAt.there)); done) | with_reducible exact SqTs.tup | with_reducible exact SqTs.ktup))) | ((with_reducible apply bf_tuple); (· (first | with_reducible exact SqLs.lst | with_reducible exact SqLs.klst | ((with_reducible apply SqLs.own); (repeat (first | with_reducible exact OAt.here | with_reducible apply OAt.there)); done) | with_reducible exact Sq.l SqLs.lst | with_reducible exact Sq.l SqLs.klst | ((with_reducible apply Sq.l; with_reducible apply SqLs.own); (repeat (first | with_reducible exact OAt.here | with_reducible apply OAt.there)); done) | with_reducible exact Sq.t SqTs.tup | with_reducible exact Sq.t SqTs.ktup | with_reducible exact SqO.lst | ((with_reducible apply SqO.own); (repeat (first | with_reducible exact OAt.here | with_reducible apply OAt.there)); done) | with_reducible exact SqTs.tup | with_reducible exact SqTs.ktup))) | ((with_reducible apply bf_sum); (· (first | with_reducible exact SqLs.lst | with_reducible exact SqLs.klst | ((with_reducible apply SqLs.own); (repeat (first | with_reducible exact OAt.here | with_reducible apply OAt.there)); done) | with_reducible exact Sq.l SqLs.lst | with_reducible exact Sq.l SqLs.klst | ((with_reducible apply Sq.l; with_reducible apply SqLs.own); (repeat (first | with_reducible exact OAt.here | with_reducible apply OAt.there)); done) | with_reducible exact Sq.t SqTs.tup | with_reducible exact Sq.t SqTs.ktup | with_reducible exact SqO.lst | ((with_reducible apply SqO.own); (repeat (first | with_reducible exact OAt.here | with_reducible apply OAt.there)); done) | with_reducible exact SqTs.tup | with_reducible exact SqTs.ktup))) | ((with_reducible apply bf_sumT); (· (first | with_reducible exact SqLs.lst | with_reducible exact SqLs.klst | ((with_reducible apply SqLs.own); (repeat (first | with_reducible exact OAt.here | with_reducible apply OAt.there)); done) | with_reducible exact Sq.l SqLs.lst | with_reducible exact Sq.l SqLs.klst | ((with_reducible apply Sq.l; with_reducible apply SqLs.own); (repeat (first | with_reducible exact OAt.here | with_reducible apply OAt.there)); done) | with_reducible exact Sq.t SqTs.tup | with_reducible exact Sq.t SqTs.ktup | with_reducible exact SqO.lst | ((with_reducible apply SqO.own); (repeat (first | with_reducible exact OAt.here | with_reducible apply OAt.there)); done) | with_reducible exact SqTs.tup | with_reducible exact SqTs.ktup))) | ((with_reducible apply bf_isi); (· first | assumption | exact TyD.non | exact TyD.bl | exact TyD.int | exact TyD.str | exact TyD.lst | exact TyD.tup | exact TyD.dct); (· first | exact ClD.ty | exact ClD.ref); (· assumption)) | with_reducible apply bf_strS | ((with_reducible apply bf_reprI); (· assumption)) | ((with_reducible apply bf_strI); (· assumption)))) | ((with_reducible apply kT); (first | ((with_reducible apply wt_cmp); (· rfl)) | with_reducible apply wt_not | ((with_reducible apply wt_of_u); (first | with_reducible apply wu_and | with_reducible apply wu_or | with_reducible apply wu_and1 | with_reducible apply wu_or1)) | ((with_reducible apply wt_chain); (· rfl)) | ((with_reducible apply wt_truth); (· intro _ _; rfl)))) | ((with_reducible apply kU); (first | with_reducible apply wu_and | with_reducible apply wu_or | with_reducible apply wu_and1 | with_reducible apply wu_or1)) | ((with_reducible apply kO); (first | with_reducible apply wo_none | with_reducible apply wo_some)) | ((with_reducible apply kK); (first | with_reducible apply wk_cons | with_reducible apply wk_nil)) | (first | (with_reducible refine wg_tup rfl (fun _ => rfl) (fun _ => rfl) ?_) | ((with_reducible apply wgs_cons); (· intro _; rfl)) | (with_reducible refine wgs_nil ?_) | ((with_reducible apply wg_name); (· (repeat (first | (show List.Mem _ (_ :: _); with_reducible exact List.Mem.head _) | refine List.Mem.tail _ ?_)); done); (· (repeat (first | with_reducible exact Up.here | with_reducible apply Up.there)); done))) | with_reducible apply nw_neg | (first | (refine wss_step ?_; intro P; (first | ((with_reducible apply ws_set); (· intro _; rfl); (· (repeat (first | (show List.Mem _ (_ :: _); with_reducible exact List.Mem.head _) | refine List.Mem.tail _ ?_)); done)) | with_reducible apply ws_ret | with_reducible apply ws_if | ((with_reducible apply ws_asg); (· intro _; rfl); (· intro _; rfl); (· intro _; rfl)) | ((with_reducible apply ws_asgS); (· intro _; rfl); (· intro env e; rcases env; cases e; rfl); (· intro _; rfl)) | ((with_reducible apply ws_par); (· decide); (· (repeat (first | (show List.Mem _ (_ :: _); with_reducible exact List.Mem.head _) | refine List.Mem.tail _ ?_)); done); (· (repeat (first | (show List.Mem _ (_ :: _); with_reducible exact List.Mem.head _) | refine List.Mem.tail _ ?_)); done); (· kernel_rfl); (· kernel_rfl); (· intro env e; rcases env; cases e; rfl); (· intro _; rfl)) | ((with_reducible apply ws_raise); (· assumption); (· exact Nat.le_of_ble_eq_true rfl); (· (repeat (first | (show List.Mem _ (_ :: _); with_reducible exact List.Mem.head _) | refine List.Mem.tail _ ?_)); done); (· intro _; rfl); (· intro _; rfl); (· exact Nat.le_of_ble_eq_true rfl)) | ((with_reducible apply ws_expr); (· intro _; rfl)) | skip)) | refine wss_nil ?_)))))
local macro_rules | `(tactic| fold_at an) => `(tactic| ((repeat (first | ((with_reducible apply kE); (first | ((with_reducible apply we_name); (· (repeat (first | (show List.Mem _ (_ :: _); with_reducible exact List.Mem.head _) | refine List.Mem.tail _ ?_)); done); (· (repeat (first | with_reducible exact At.here | with_reducible apply At.there)); done)) | with_reducible apply we_int | with_reducible apply we_bin | ((with_reducible apply kNm); (first | ((with_reducible apply wn_gi); (· assumption); (· (repeat (first | (show List.Mem _ (_ :: _); with_reducible exact List.Mem.head _) | refine List.Mem.tail _ ?_)); done)) | ((with_reducible apply wn_cls); (· assumption); (· (repeat (first | (show List.Mem _ (_ :: _); with_reducible exact List.Mem.head _) | refine List.Mem.tail _ ?_)); done)) | ((with_reducible apply wn_int); (· assumption); (· (repeat (first | (show List.Mem _ (_ :: _); with_reducible exact List.Mem.head _) | refine List.Mem.tail _ ?_)); done)) | ((with_reducible apply wn_bool); (· assumption); (· (repeat (first | (show List.Mem _ (_ :: _); with_reducible exact List.Mem.head _) | refine List.Mem.tail _ ?_)); done)) | ((with_reducible apply wn_list); (· assumption); (· (repeat (first | (show List.Mem _ (_ :: _); with_reducible exact List.Mem.head _) | refine List.Mem.tail _ ?_)); done)) | ((with_reducible apply wn_tuple); (· assumption); (· (repeat (first | (show List.Mem _ (_ :: _); with_reducible exact List.Mem.head _) | refine List.Mem.tail _ ?_)); done)) | ((with_reducible apply wn_str); (· assumption); (· (repeat (first | (show List.Mem _ (_ :: _); with_reducible exact List.Mem.head _) | refine List.Mem.tail _ ?_)); done)) | ((with_reducible apply wn_dict); (· assumption); (· (repeat (first | (show List.Mem _ (_ :: _); with_reducible exact List.Mem.head _) | refine List.Mem.tail _ ?_)); done)) | ((with_reducible apply wn_gs); (· assumption); (· (repeat (first | (show List.Mem _ (_ :: _); with_reducible exact List.Mem.head _) | refine List.Mem.tail _ ?_)); done)))) | ((with_reducible apply kCall); (first | ((with_reducible apply wb_int); (· assumption)) | ((with_reducible apply wb_len); (· assumption)) | ((with_reducible apply we_def); (· assumption); (· exact Nat.le_of_ble_eq_true rfl)) | ((with_reducible apply wb_abs); (· assumption)) | ((with_reducible apply wb_list); (· assumption)) | ((with_reducible apply wb_tuple); (· assumption)) | ((with_reducible apply wb_isinstance); (· assumption)) | ((with_reducible apply wb_sum); (· assumption)) | ((with_reducible apply wb_repr); (· assumption)) | ((with_reducible apply wb_str); (· assumption)) | ((with_reducible apply wb_sorted); (· assumption)) | ((with_reducible apply wb_dict); (· assumption)) | ((with_reducible apply wb_max); (· assumption)) | ((with_reducible apply wb_min); (· assumption)) | ((with_reducible apply wb_all); (· assumption)) | ((with_reducible apply wb_any); (· assumption)) | ((with_reducible apply wb_bool); (· assumption)) | ((with_reducible apply wb_iter); (· assumption)) | ((with_reducible apply wb_set); (· assumption)) | ((with_reducible apply wb_zip); (· assumption))); (· (repeat (first | (show List.Mem _ (_ :: _); with_reducible exact List.Mem.head _) | refine List.Mem.tail _ ?_)); done); (· intro _; rfl); (· intro _; rfl)) | ((with_reducible apply we_ix); (· intro _ _; rfl)) | ((with_reducible apply we_cmp); (· rfl)) | with_reducible apply we_bool | with_reducible apply we_none | with_reducible apply we_str | with_reducible apply we_not | with_reducible apply we_un | with_reducible apply we_sl | with_reducible apply we_if | with_reducible apply we_tup | with_reducible apply we_and | with_reducible apply we_or | with_reducible apply we_one | ((with_reducible apply we_chain); (· rfl)) | (with_reducible refine we_lst ?_) | with_reducible apply we_dct0 | (first | ((with_reducible apply we_mth); (· assumption); (· assumption); (· exact Nat.le_of_ble_eq_true rfl); (· intro _; rfl); (· intro _; rfl); (· intro _; rfl)) | ((with_reducible apply we_mth0); (· assumption); (· assumption); (· exact Nat.le_of_ble_eq_true rfl); (· intro _; rfl)) | ((with_reducible apply we_mthK); (· assumption); (· assumption); (· exact Nat.le_of_ble_eq_true rfl); (· intro _; rfl); (· intro _; rfl); (· intro _; rfl); (· intro _; rfl)) | ((with_reducible apply we_cmt); (· assumption); (· exact Nat.le_of_ble_eq_true rfl); (· intro _; rfl); (· intro _; rfl); (· intro _; rfl))) | (first | ((with_reducible apply wf_len); (· assumption); (· intro _; rfl)) | ((with_reducible apply wf_tot); (· assumption); (· intro _; rfl)) | ((with_reducible apply wf_idx); (· assumption); (· intro _; rfl)) | ((with_reducible apply we_prp); (· assumption); (· assumption); (· exact Nat.le_of_ble_eq_true rfl); (· intro _; rfl))) | (with_reducible refine we_join (fun _ => rfl) (fun _ => rfl) rfl (fun _ => rfl) ?_) | (with_reducible refine we_fld (fun _ => rfl) ?_) | (with_reducible refine we_fstr ?_))) | ((with_reducible apply kW); (first | with_reducible apply ow_add | with_reducible apply ow_sub | with_reducible apply ow_lt | with_reducible apply ow_le | with_reducible apply ow_gt | with_reducible apply ow_ge | with_reducible apply ow_eqI | with_reducible apply ow_neI | with_reducible apply ow_is | with_reducible apply ow_isnot | ((with_reducible apply ow_mod); (· first | assumption | omega)) | ((with_reducible apply ow_mul); (· first | exact .inl (by omega) | exact .inr (by omega))) | ((with_reducible apply ow_pow); (· first | exact ⟨by omega, by omega, by omega⟩ | assumption)) | ((with_reducible apply ow_fdiv); (· first | exact ⟨by omega, by decide⟩ | assumption)) | ((with_reducible apply ow_cat); (· (first | with_reducible exact SqLs.lst | with_reducible exact SqLs.klst | ((with_reducible apply SqLs.own); (repeat (first | with_reducible exact OAt.here | with_reducible apply OAt.there)); done) | with_reducible exact Sq.l SqLs.lst | with_reducible exact Sq.l SqLs.klst | ((with_reducible apply Sq.l; with_reducible apply SqLs.own); (repeat (first | with_reducible exact OAt.here | with_reducible apply OAt.there)); done) | with_reducible exact Sq.t SqTs.tup | with_reducible exact Sq.t SqTs.ktup | with_reducible exact SqO.lst | ((with_reducible apply SqO.own); (repeat (first | with_reducible exact OAt.here | with_reducible apply OAt.there)); done) | with_reducible exact SqTs.tup | with_reducible exact SqTs.ktup)); (· (first | with_reducible exact SqLs.lst | with_reducible exact SqLs.klst | ((with_reducible apply SqLs.own); (repeat (first | with_reducible exact OAt.here | with_reducible apply OAt.there)); done) | with_reducible exact Sq.l SqLs.lst | with_reducible exact Sq.l SqLs.klst | ((with_reducible apply Sq.l; with_reducible apply SqLs.own); (repeat (first | with_reducible exact OAt.here | with_reducible apply OAt.there)); done) | with_reducible exact Sq.t SqTs.tup | with_reducible exact Sq.t SqTs.ktup | with_reducible exact SqO.lst | ((with_reducible apply SqO.own); (repeat (first | with_reducible exact OAt.here | with_reducible apply OAt.there)); done) | with_reducible exact SqTs.tup | with_reducible exact SqTs.ktup)); (· exact sz (by first | (simp; done) | exact Nat.le_of_ble_eq_true rfl))) | ((with_reducible apply ow_eqS (t := true)); (· first | exact decide_eq_true rfl | decide +kernel)) | ((with_reducible apply ow_eqS (t := false)); (· first | exact decide_eq_true rfl | decide +kernel)) | ((with_reducible apply ow_neS (t := true)); (· first | exact decide_eq_true rfl | decide +kernel)) | ((with_reducible apply ow_neS (t := false)); (· first | exact decide_eq_true rfl | decide +kernel)) | ((with_reducible apply ow_inT (t := true)); (· rfl); (· first | exact .t .tup | exact .l .lst | exact .l .klst); (· rfl); (· decide +kernel)) | ((with_reducible apply ow_inT (t := false)); (· rfl); (· first | exact .t .tup | exact .l .lst | exact .l .klst); (· rfl); (· decide +kernel)) | ((with_reducible apply ow_notinT (t := true)); (· rfl); (· first | exact .t .tup | exact .l .lst | exact .l .klst); (· rfl); (· decide +kernel)) | ((with_reducible apply ow_notinT (t := false)); (· rfl); (· first | exact .t .tup | exact .l .lst | exact .l .klst); (· rfl); (· decide +kernel)) | ((with_reducible apply ow_eqDT (t := true)); (· decide +kernel); (· decide +kernel); (· decide +kernel)) | ((with_reducible apply ow_eqDT (t := false)); (· decide +kernel); (· decide +kernel); (· decide +kernel)) | ((with_reducible apply ow_neDT (t := true)); (· decide +kernel); (· decide +kernel); (· decide +kernel)) | ((with_reducible apply ow_neDT (t := false)); (· decide +kernel); (· decide +kernel); (· decide +kernel)))) | ((with_reducible apply kA); (first | ((with_reducible apply wa_cons); (· intro _; rfl)) | with_reducible apply wa_nil)) | ((with_reducible apply kEx); (first | (with_reducible refine Exists.intro _ (And.intro (by (repeat (first | with_reducible exact Up.here | with_reducible apply Up.there)); done) ?_)) | (with_reducible refine Exists.intro _ (And.intro rfl (And.intro (fun h => (by first | (cases h; done) | (with_unfolding_all exact Bool.noConfusion (show true = false from h)) | (with_unfolding_all exact Bool.noConfusion (show false = true from h)))) (fun _ => ?_)))) | (with_reducible refine Exists.intro _ (And.intro rfl (And.intro (fun _ => ?_) (fun h => (by first | (cases h; done) | (with_unfolding_all exact Bool.noConfusion (show true = false from h)) | (with_unfolding_all exact Bool.noConfusion (show false = true from h))))))) | (with_reducible refine ⟨_, rfl, ?_⟩) | (with_reducible refine Exists.intro _ (And.intro Tru.bl (And.intro (fun h => (by first | (cases h; done) | (with_unfolding_all exact Bool.noConfusion (show true = false from h)) | (with_unfolding_all exact Bool.noConfusion (show false = true from h)))) (fun _ => ?_)))) | (with_reducible refine Exists.intro _ (And.intro Tru.bl (And.intro (fun _ => ?_) (fun h => (by first | (cases h; done) | (with_unfolding_all exact Bool.noConfusion (show true = false from h)) | (with_unfolding_all exact Bool.noConfusion (show false = true from h))))))) | (with_reducible refine Exists.intro _ (And.intro Tru.non (And.intro (fun h => (by first | (cases h; done) | (with_unfolding_all exact Bool.noConfusion (show true = false from h)) | (with_unfolding_all exact Bool.noConfusion (show false = true from h)))) (fun _ => ?_)))) | (with_reducible refine Exists.intro _ (And.intro Tru.non (And.intro (fun _ => ?_) (fun h => (by first | (cases h; done) | (with_unfolding_all exact Bool.noConfusion (show true = false from h)) | (with_unfolding_all exact Bool.noConfusion (show false = true from h))))))) | (refine Exists.intro _ (Exists.intro _ (Exists.intro _ (And.intro (by (first | exact .t .tup | exact .l .lst | exact .l .klst | (first | with_reducible exact SqLs.lst | with_reducible exact SqLs.klst | ((with_reducible apply SqLs.own); (repeat (first | with_reducible exact OAt.here | with_reducible apply OAt.there)); done) | with_reducible exact Sq.l SqLs.lst | with_reducible exact Sq.l SqLs.klst | ((with_reducible apply Sq.l; with_reducible apply SqLs.own); (repeat (first | with_reducible exact OAt.here | with_reducible apply OAt.there)); done) | with_reducible exact Sq.t SqTs.tup | with_reducible exact Sq.t SqTs.ktup | with_reducible exact SqO.lst | ((with_reducible apply SqO.own); (repeat (first | with_reducible exact OAt.here | with_reducible apply OAt.there)); done) | with_reducible exact SqTs.tup | with_reducible exact SqTs.ktup))) (And.intro rfl (And.intro rfl ?_)))))) | (with_reducible refine ⟨_, Ins.ins, cyc_lk (by decide +kernel), ?_⟩) | (refine Exists.intro _ (And.intro (Ins.own (by first | assumption | ((repeat (first | assumption | with_reducible exact OAt.here | with_reducible apply OAt.there)); done))) (And.intro (ws_lk (by decide +kernel)) ?_))) | (with_reducible refine Exists.intro _ (Exists.intro _ (Exists.intro _ (Exists.intro _ (And.intro rfl (And.intro (by (repeat (first | with_reducible exact Up.here | with_reducible apply Up.there)); done) (And.intro (by (repeat (first | with_reducible exact Up.here | with_reducible apply Up.there)); done) ?_))))))) | (refine Exists.intro _ (Exists.intro _ (Exists.intro _ (And.intro (by first | exact Ins.ins | exact Ins.own (by first | assumption | ((repeat (first | assumption | with_reducible exact OAt.here | with_reducible apply OAt.there)); done))) (And.intro (by assumption) (And.intro (by assumption) (And.intro (by first | exact FAt.here | exact FAt.there rfl FAt.here | exact FAt.there rfl (FAt.there rfl FAt.here) | exact FAt.there rfl (FAt.there rfl (FAt.there rfl FAt.here))) ?_))))))))) | ((with_reducible apply kAn); (first | (with_reducible refine And.intro (sz (by first | (simp; done) | exact Nat.le_of_ble_eq_true rfl)) ?_) | (with_reducible refine And.intro (fun h => (by first | (cases h; done) | (with_unfolding_all exact Bool.noConfusion (show true = false from h)) | (with_unfolding_all exact Bool.noConfusion (show false = true from h)))) (fun _ => ?_)) | (with_reducible refine And.intro (fun _ => ?_) (fun h => (by first | (cases h; done) | (with_unfolding_all exact Bool.noConfusion (show true = false from h)) | (with_unfolding_all exact Bool.noConfusion (show false = true from h))))) | (with_reducible refine And.intro rfl ?_))) | ((with_reducible apply kB); (first | with_reducible apply bf_int | ((with_reducible apply bf_len); (· (first | with_reducible exact SqLs.lst | with_reducible exact SqLs.klst | ((with_reducible apply SqLs.own); (repeat (first | with_reducible exact OAt.here | with_reducible apply OAt.there)); done) | with_reducible exact Sq.l SqLs.lst | with_reducible exact Sq.l SqLs.klst | ((with_reducible apply Sq.l; with_reducible apply SqLs.own); (repeat (first | with_reducible exact OAt.here | with_reducible apply OAt.there)); done) | with_reducible exact Sq.t SqTs.tup | with_reducible exact Sq.t SqTs.ktup | with_reducible exact SqO.lst | ((with_reducible apply SqO.own); (repeat (first | with_reducible exact OAt.here | with_reducible apply OAt.there)); done) | with_reducible exact SqTs.tup | with_reducible exact SqTs.ktup))) | with_reducible apply bf_abs | with_reducible apply bf_intB | ((with_reducible apply bf_list); (· (first | with_reducible exact SqLs.lst | with_reducible exact SqLs.klst | ((with_reducible apply SqLs.own); (repeat (first | with_reducible exact OAt.here | with_reducible apply OAt.there)); done) | with_reducible exact Sq.l SqLs.lst | with_reducible exact Sq.l SqLs.klst | ((with_reducible apply Sq.l; with_reducible apply SqLs.own); (repeat (first | with_reducible exact OAt.here | with_reducible apply OAt.there)); done) | with_reducible exact Sq.t SqTs.tup | with_reducible exact Sq.t SqTs.ktup | with_reducible exact SqO.lst | ((with_reducible apply SqO.own); (repeat (first | with_reducible exact OAt.here | with_reducible apply OAt.there)); done) | with_reducible exact SqTs.tup | with_reducible exact SqTs.ktup))) | ((with_reducible apply bf_tuple); (· (first | with_reducible exact SqLs.lst | with_reducible exact SqLs.klst | ((with_reducible apply SqLs.own); (repeat (first | with_reducible exact OAt.here | with_reducible apply OAt.there)); done) | with_reducible exact Sq.l SqLs.lst | with_reducible exact Sq.l SqLs.klst | ((with_reducible apply Sq.l; with_reducible apply SqLs.own); (repeat (first | with_reducible exact OAt.here | with_reducible apply OAt.there)); done) | with_reducible exact Sq.t SqTs.tup | with_reducible exact Sq.t SqTs.ktup | with_reducible exact SqO.lst | ((with_reducible apply SqO.own); (repeat (first | with_reducible exact OAt.here | with_reducible apply OAt.there)); done) | with_reducible exact SqTs.tup | with_reducible exact SqTs.ktup))) | ((with_reducible apply bf_sum); (· (first | with_reducible exact SqLs.lst | with_reducible exact SqLs.klst | ((with_reducible apply SqLs.own); (repeat (first | with_reducible exact OAt.here | with_reducible apply OAt.there)); done) | with_reducible exact Sq.l SqLs.lst | with_reducible exact Sq.l SqLs.klst | ((with_reducible apply Sq.l; with_reducible apply SqLs.own); (repeat (first | with_reducible exact OAt.here | with_reducible apply OAt.there)); done) | with_reducible exact Sq.t SqTs.tup | with_reducible exact Sq.t SqTs.ktup | with_reducible exact SqO.lst | ((with_reducible apply SqO.own); (repeat (first | with_reducible exact OAt.here | with_reducible apply OAt.there)); done) | with_reducible exact SqTs.tup | with_reducible exact SqTs.ktup))) | ((with_reducible apply bf_sumT); (· (first | with_reducible exact SqLs.lst | with_reducible exact SqLs.klst | ((with_reducible apply SqLs.own); (repeat (first | with_reducible exact OAt.here | with_reducible apply OAt.there)); done) | with_reducible exact Sq.l SqLs.lst | with_reducible exact Sq.l SqLs.klst | ((with_reducible apply Sq.l; with_reducible apply SqLs.own); (repeat (first | with_reducible exact OAt.here | with_reducible apply OAt.there)); done) | with_reducible exact Sq.t SqTs.tup | with_reducible exact Sq.t SqTs.ktup | with_reducible exact SqO.lst | ((with_reducible apply SqO.own); (repeat (first | with_reducible exact OAt.here | with_reducible apply OAt.there)); done) | with_reducible exact SqTs.tup | with_reducible exact SqTs.ktup))) | ((with_reducible apply bf_isi); (· first | assumption | exact TyD.non | exact TyD.bl | exact TyD.int | exact TyD.str | exact TyD.lst | exact TyD.tup | exact TyD.dct); (· first | exact ClD.ty | exact ClD.ref); (· assumption)) | with_reducible apply bf_strS | ((with_reducible apply bf_reprI); (· assumption)) | ((with_reducible apply bf_strI); (· assumption)))) | ((with_reducible apply kT); (first | ((with_reducible apply wt_cmp); (· rfl)) | with_reducible apply wt_not | ((with_reducible apply wt_of_u); (first | with_reducible apply wu_and | with_reducible apply wu_or | with_reducible apply wu_and1 | with_reducible apply wu_or1)) | ((with_reducible apply wt_chain); (· rfl)) | ((with_reducible apply wt_truth); (· intro _ _; rfl)))) | ((with_reducible apply kU); (first | with_reducible apply wu_and | with_reducible apply wu_or | with_reducible apply wu_and1 | with_reducible apply wu_or1)) | ((with_reducible apply kO); (first | with_reducible apply wo_none | with_reducible apply wo_some)) | ((with_reducible apply kK); (first | with_reducible apply wk_cons | with_reducible apply wk_nil)) | (first | (with_reducible refine wg_tup rfl (fun _ => rfl) (fun _ => rfl) ?_) | ((with_reducible apply wgs_cons); (· intro _; rfl)) | (with_reducible refine wgs_nil ?_) | ((with_reducible apply wg_name); (· (repeat (first | (show List.Mem _ (_ :: _); with_reducible exact List.Mem.head _) | refine List.Mem.tail _ ?_)); done); (· (repeat (first | with_reducible exact Up.here | with_reducible apply Up.there)); done))) | with_reducible apply nw_neg | (first | (refine wss_step ?_; intro P; (first | ((with_reducible apply ws_set); (· intro _; rfl); (· (repeat (first | (show List.Mem _ (_ :: _); with_reducible exact List.Mem.head _) | refine List.Mem.tail _ ?_)); done)) | with_reducible apply ws_ret | ((with_reducible apply ws_asg); (· intro _; rfl); (· intro _; rfl); (· intro _; rfl)) | ((with_reducible apply ws_asgS); (· intro _; rfl); (· intro env e; rcases env; cases e; rfl); (· intro _; rfl)) | ((with_reducible apply ws_par); (· decide); (· (repeat (first | (show List.Mem _ (_ :: _); with_reducible exact List.Mem.head _) | refine List.Mem.tail _ ?_)); done); (· (repeat (first | (show List.Mem _ (_ :: _); with_reducible exact List.Mem.head _) | refine List.Mem.tail _ ?_)); done); (· kernel_rfl); (· kernel_rfl); (· intro env e; rcases env; cases e; rfl); (· intro _; rfl)) | ((with_reducible apply ws_raise); (· assumption); (· exact Nat.le_of_ble_eq_true rfl); (· (repeat (first | (show List.Mem _ (_ :: _); with_reducible exact List.Mem.head _) | refine List.Mem.tail _ ?_)); done); (· intro _; rfl); (· intro _; rfl); (· exact Nat.le_of_ble_eq_true rfl)) | ((with_reducible apply ws_expr); (· intro _; rfl)) | skip)) | refine wss_nil ?_)))))
abbrev nDraw : List Str := ["_law_pen_here", "_law_many", "_law_digit", "_law_at", "_law_cell", "_law_great", "_law_mixed"]
theorem scDraw : Sco nDraw nDraw ["_law_pen_here", "_law_many"] ["int", "len", "abs"] (defScope s__law_draw) := sco_of (by decide +kernel)
theorem draw_ok {M : Md} {f : Addr} {fd : FuncData} (F : Fun M.K "_law_draw" "_law_draw" s__law_draw f fd) (B : Bi M.mg) : FnG M 1 f fd ["_law_pen_here", "_law_many"] (spD M.K TDraw) := by
  refine fn_body F scDraw (fun ds O Q E h => ?_) (fun ds O QD ED h H X => ?_)
  · obtain ⟨p, b, m, O', rfl, _⟩ := h
    rfl
  obtain ⟨p, b, m, O', rfl, hu, hb, hm0, hm1, hq⟩ := h
  show WSs _ _ _ [("_law_pen_here", some (.ref p)), ("_law_many", some (.int m)), ("_law_digit", none), ("_law_at", none), ("_law_cell", none), ("_law_great", none), ("_law_mixed", none)] O _
  refine wss_openV hu fun ds O1 hP u1 => ?_
  obtain ⟨ns, i, l, rfl, hi0, hi1, hl0, hnl⟩ := hP
  have a1 : OAt O1 p _ := u1.at_.1
  -- if pen[2] > 0
  fold_at st
  fold_at go
  refine ⟨_, 2, _, .l (.own a1), rfl, rfl, ?_⟩
  fold_at go
  refine ⟨fun hc => ?_, fun hc => ?_⟩
  · have hl : 0 < l := by simpa using hc
    fold_at st
    fold_at go
    refine ⟨_, 2, _, .l (.own a1), rfl, rfl, ?_⟩
    fold_at go
    refine ow_mod hm0 ?_
    refine ⟨_, (by fold_at up), ?_⟩
    fold_at st
    fold_at go
    refine ⟨_, 2, _, .l (.own a1), rfl, rfl, ?_⟩
    fold_at go
    refine ow_fdiv ⟨hm0, hm1⟩ ?_
    refine wg_subV u1 (fun _ _ => rfl) ?_
    fold_at go
    refine ⟨2, 2, rfl, rfl, rfl, rfl, fun O3 u3 => ?_⟩
    refine wss_close u3 ⟨ns, i, l / m, rfl, hi0, by omega, Int.ediv_nonneg hl0 (by omega), hnl⟩ ?_
    fold_at st
    fold_at go
    exact hq _ (Int.emod_nonneg _ (by omega)) (Int.emod_lt_of_pos _ hm0)
  · have hl : l = 0 := by simp at hc; omega
    fold_at st
    fold_at st
    fold_at go
    refine ⟨_, 1, _, .l (.own a1), rfl, rfl, ?_⟩
    refine ⟨_, (by fold_at up), ?_⟩
    fold_at st
    fold_at go
    refine wg_subV u1 (fun _ _ => rfl) ?_
    fold_at go
    refine ⟨1, 1, rfl, rfl, rfl, rfl, fun O3 u3 => ?_⟩
    have a3 : OAt O3 p (.lst [.lst (ns.map .int), .int (i + 1), .int l]) := u3.at_.1
    fold_at st
    fold_at go
    refine ow_mul (.inl (by omega)) ?_
    fold_at go
    refine ⟨_, (by fold_at up), ?_⟩
    refine wss_cut (fun Γ' O' => ∃ c : Int, Γ' = ([("_law_pen_here", some (.ref p)), ("_law_many", some (.int m)), ("_law_digit", none), ("_law_at", some (.int i)), ("_law_cell", some (.int c)), ("_law_great", none), ("_law_mixed", none)] : En) ∧ O' = O3) ?_ ?_
    · refine ws_if ?_
      fold_at go
      refine ⟨_, 0, _, .l (.own a3), rfl, rfl, ?_⟩
      refine we_lst ?_
      refine wa_nil ⟨by decide, ?_⟩
      refine ow_neD (shp_ints ns) (shp_ints []) ?_
      refine ⟨_, rfl, fun hc => ?_, fun hc => ?_⟩
      · have hne : ns ≠ [] := by
          rw [show (D.lst []) = D.lst (([] : List Int).map .int) from rfl, eq_ints] at hc
          simpa using hc
        have hlen : 0 < ns.length := List.length_pos_iff.mpr hne
        fold_at st
        fold_at go
        refine ⟨_, 0, _, .l (.own a3), rfl, rfl, ?_⟩
        fold_at go
        refine ⟨_, 0, _, .l (.own a3), rfl, rfl, ?_⟩
        fold_at go
        refine ow_mod (by simpa using hlen) ?_
        obtain ⟨c, hcell⟩ : ∃ c, atI (ns.map D.int) (i % ((ns.map D.int).length : Int)) = some (.int c) := atI_ints ns (Int.emod_nonneg _ (by simp; omega)) (by
          have := Int.emod_lt_of_pos i (b := ((ns.map D.int).length : Int)) (by simpa using hlen)
          simpa using this)
        refine ⟨_, _, _, .l .lst, rfl, hcell, ?_⟩
        refine ⟨_, (by fold_at up), ?_⟩
        refine wss_nil ⟨c, rfl, rfl⟩
      · refine wss_nil ⟨_, rfl, rfl⟩
    rintro Γ' O4 ⟨c, rfl, rfl⟩
    refine wss_cut (fun Γ' O' => Γ' = ([("_law_pen_here", some (.ref p)), ("_law_many", some (.int m)), ("_law_digit", none), ("_law_at", some (.int i)), ("_law_cell", some (.int c)), ("_law_great", none), ("_law_mixed", none)] : En) ∧ O' = O4) ?_ ?_
    · refine ws_if ?_
      fold_at go
      refine ⟨_, 0, _, .l (.own a3), rfl, rfl, ?_⟩
      fold_at go
      refine ⟨fun hc => ?_, fun hc => ⟨fun h => (by cases h), fun _ => wss_nil ⟨rfl, rfl⟩⟩⟩
      fold_at cs
      refine ⟨fun hd => ?_, fun _ => wss_nil ⟨rfl, rfl⟩⟩
      have hgr : 0 ≤ 2 * ((if c < 0 then -c else c) - 10 ^ (18 : Int).toNat) := by
        have := of_decide_eq_true hd
        omega
      fold_at st
      fold_at cs
      refine ⟨_, (by fold_at up), ?_⟩
      fold_at st
      fold_at go
      refine ow_fdiv ⟨hm0, hm1⟩ ?_
      refine wg_subV u3 (fun _ _ => rfl) ?_
      fold_at go
      refine ⟨2, 2, rfl, rfl, rfl, rfl, fun O6 u6 => ?_⟩
      refine wss_close u6 ⟨ns, i + 1, _, rfl, by omega, by omega, Int.ediv_nonneg ?_ (by omega), hnl⟩ ?_
      · split <;> omega
      fold_at st
      fold_at cs
      exact hq _ (Int.emod_nonneg _ (by omega)) (Int.emod_lt_of_pos _ hm0)
    rintro Γ' O5 ⟨rfl, rfl⟩
    refine wss_cut (fun Γ' O' => ∃ x : Int, 0 ≤ x ∧ x < 2 ^ 31 ∧ Γ' = ([("_law_pen_here", some (.ref p)), ("_law_many", some (.int m)), ("_law_digit", none), ("_law_at", some (.int i)), ("_law_cell", some (.int c)), ("_law_great", none), ("_law_mixed", some (.int x))] : En) ∧ O' = O5) ?_ ?_
    · refine ws_set (fun _ => rfl) (by fold_at mem) ?_
      fold_at cs
      refine ⟨_, (by fold_at up), _, Int.emod_nonneg _ (by decide), Int.lt_trans (Int.emod_lt_of_pos _ (by decide)) (by decide), rfl, rfl⟩
    rintro Γ' O6 ⟨x, hx0, hx1, rfl, rfl⟩
    fold_at st
    fold_at cs
    refine ow_pow ⟨by decide, by decide, pw3 hx0 hx1 hi0 (by omega) (by decide) (by decide) (by decide) (by decide) (by decide) (by decide)⟩ ?_
    fold_at cs
    refine ⟨_, (by fold_at up), ?_⟩
    refine wss_close u3 ⟨ns, i + 1, l, rfl, by omega, by omega, hl0, hnl⟩ ?_
    fold_at st
    fold_at cs
    exact hq _ (Int.emod_nonneg _ (by omega)) (Int.emod_lt_of_pos _ hm0)
abbrev nPen : List Str := ["_law_script"]
theorem scPen : Sco nPen nPen ["_law_script"] ["list"] (defScope s__law_pen) := sco_of (by decide +kernel)
theorem pen_ok {M : Md} {f : Addr} {fd : FuncData} (F : Fun M.K "_law_pen" "_law_pen" s__law_pen f fd) (B : Bi M.mg) : FnG M 1 f fd ["_law_script"] (spD M.K TPen) := by
  refine fn_body F scPen (fun ds O Q E h => ?_) (fun ds O QD ED h H X => ?_)
  · obtain ⟨ns, rfl, _⟩ := h
    rfl
  obtain ⟨ns, rfl, hl, hq⟩ := h
  show WSs _ _ _ [("_law_script", some (.klst (ns.map .int)))] O _
  fold_at st
  refine we_close ?_
  refine we_lstO ?_
  fold_at go
  refine SlD.lst .klst ?_
  fold_at go
  refine ⟨sz (by simp), fun p hp => ?_⟩
  obtain ⟨ms, e, hm, _⟩ := cut_map (ns := ns) (lo := none) (hi := some 63)
  exact ⟨p, Pen 0, _, _, .here, ⟨ms, 0, 0, by rw [e], by decide, by decide, by decide, by omega⟩, hq p hp⟩
abbrev nPick : List Str := ["_law_pen_here", "_law_some"]
theorem scPick : Sco nPick nPick ["_law_pen_here", "_law_some"] ["_law_draw", "len"] (defScope s__law_pick) := sco_of (by decide +kernel)
theorem pick_ok {M : Md} {f : Addr} {fd : FuncData} (F : Fun M.K "_law_pick" "_law_pick" s__law_pick f fd) (B : Bi M.mg) (D1 : Ent M 1 "_law_draw" TDraw) : FnG M 3 f fd ["_law_pen_here", "_law_some"] (spD M.K TPick) := by
  refine fn_body F scPick (fun ds O Q E h => ?_) (fun ds O QD ED h H X => ?_)
  · obtain ⟨p, b, x, xs, O', rfl, _⟩ := h
    rfl
  obtain ⟨p, b, x, xs, O', rfl, sx, sx', hu, hb, hne, hl, hq⟩ := h
  show WSs _ _ _ [("_law_pen_here", some (.ref p)), ("_law_some", some x)] O _
  fold_at st
  fold_at go
  refine bf_len (.l sx) ?_
  fold_at go
  have hlen : 0 < xs.length := List.length_pos_iff.mpr hne
  refine ⟨p, b, _, O', rfl, hu, hb, by omega, ?_, fun r h0 h1 => ?_⟩
  · have : (xs.length : Int).natAbs < 2 ^ 10 := by omega
    exact Nat.lt_trans ((Nat.log2_lt (by omega)).mpr this) (by decide)
  · obtain ⟨d, hd, hm, _⟩ := atI_nat h0 h1
    exact ⟨xs, r, d, .l sx', rfl, hd, hq d hm⟩
abbrev n_is_integer : List Str := ["value"]
theorem sc_is_integer : Sco n_is_integer ["value"] ["value"] ["isinstance", "int", "bool"] (defScope s_is_integer) := sco_of (by decide +kernel)
theorem is_integer_ok {M : Md} {f : Addr} {fd : FuncData} (F : Fun M.K "is_integer" "is_integer" s_is_integer f fd) (B : Bi M.mg) : FnG M 1 f fd ["value"] (spD M.K (TIsInt)) := by
  refine fn_body F sc_is_integer (fun ds O Q E h => ?_) (fun ds O QD ED h H X => ?_)
  · obtain ⟨d, n, rfl, hn, hq⟩ := h
    rfl
  obtain ⟨d, n, rfl, hn, hq⟩ := h
  show WSs _ _ _ [("value", some (d))] O _
  fold_at st
  fold_at go
  refine bf_isi (tyD_of hn) .ty (kit_int hn) ?_
  refine ⟨_, rfl, fun hc => ?_, fun hc => ?_⟩
  · refine we_one ?_
    fold_at go
    refine bf_isi (tyD_of hn) .ty (kit_bool hn) ?_
    refine ⟨_, rfl, ?_⟩
    rw [show (!d.isB) = d.isI by cases d <;> first | rfl | cases hc] 
    exact hq
  · rw [show d.isI = false by cases d <;> first | rfl | cases hc] at hq
    exact hq
abbrev n_is_within : List Str := ["value", "least", "most"]
theorem sc_is_within : Sco n_is_within ["value", "least", "most"] ["value", "least", "most"] ["is_integer"] (defScope s_is_within) := sco_of (by decide +kernel)
theorem is_within_ok {M : Md} {f : Addr} {fd : FuncData} (F : Fun M.K "is_within" "is_within" s_is_within f fd) (B : Bi M.mg) (h_is_integer : Ent M 1 "is_integer" (TIsInt)) : FnG M 3 f fd ["value", "least", "most"] (spD M.K (TWithinD)) := by
  refine fn_body F sc_is_within (fun ds O Q E h => ?_) (fun ds O QD ED h H X => ?_)
  · obtain ⟨d, lo, hi, n, rfl, hn, hq⟩ := h
    rfl
  obtain ⟨d, lo, hi, n, rfl, hn, hq⟩ := h
  show WSs _ _ _ [("value", some (d)), ("least", some (.int lo)), ("most", some (.int hi))] O _
  fold_at st
  fold_at go
  refine ⟨d, n, rfl, hn, ?_⟩
  refine ⟨_, rfl, fun hc => ?_, fun hc => ?_⟩
  · obtain ⟨v, rfl⟩ := isI_ex hc
    refine we_one ?_
    fold_at go
    refine ⟨fun h => ?_, fun h => ?_⟩
    · fold_at go
      rw [show D.inB lo hi (.int v) = decide (v ≤ hi) by simp [D.inB, of_decide_eq_true h]] at hq
      exact hq
    · rw [show D.inB lo hi (.int v) = false by simp [D.inB, of_decide_eq_false h]] at hq
      exact hq
  · rw [inB_no hc] at hq
    exact hq
abbrev n_is_name : List Str := ["value", "letter"]
theorem sc_is_name : Sco n_is_name ["value"] ["value"] ["isinstance", "str", "len", "MOST_LETTERS", "all"] (defScope s_is_name) := sco_of (by decide +kernel)
theorem is_name_ok {M : Md} {f : Addr} {fd : FuncData} (F : Fun M.K "is_name" "is_name" s_is_name f fd) (B : Bi M.mg) (i_LETTERS : GS M.mg "LETTERS" lettersS) (i_MOST_LETTERS : GI M.mg "MOST_LETTERS" 8) : FnG M 1 f fd ["value"] (spD M.K (TIsName)) := by
  refine fn_body F sc_is_name (fun ds O Q E h => ?_) (fun ds O QD ED h H X => ?_)
  · obtain ⟨d, n, rfl, hn, hs, hq⟩ := h
    rfl
  obtain ⟨d, n, rfl, hn, hs, hq⟩ := h
  show WSs _ _ _ [("value", some (d)), ("letter", none)] O _
  refine wss_step ?_
  intro P0
  refine ws_if ?_
  fold_at go
  refine bf_isi (tyD_of hn) .ty (kit_str hn) ?_
  refine ⟨_, .bl, fun h0 => ?_, fun h0 => ?_⟩
  · obtain ⟨x, rfl⟩ : ∃ x, d = .str x := isS_ex (by simpa using h0)
    have hl : x.length ≤ sizeLine := hs
    fold_at go
    refine wt_chain rfl ?_
    fold_at go
    refine bf_len_str hl ?_
    fold_at go
    refine ⟨fun h1 => ?_, fun h1 => ?_⟩
    · have h1 : 1 ≤ x.length := by have := of_decide_eq_true h1; omega
      fold_at go
      refine ⟨fun h2 => ?_, fun h2 => ?_⟩
      · have h2 : ¬ x.length ≤ 8 := by simp at h2; omega
        fold_at st
        fold_at go
        rw [show D.isNm (.str x) = false by show nmOk x = false; unfold nmOk; simp [h2]] at hq
        exact hq
      · have h2 : x.length ≤ 8 := by simp at h2; omega
        have hsz : x.cps.size ≤ 8 := h2
        fold_at st
        fold_at st
        fold_at go
        refine we_frz ?_
        refine we_lc ["letter"] ["LETTERS"] ["letter"] (by show blkB n_is_name (defScope s_is_name) _ _ _ _ = true; decide +kernel) (fun _ _ => rfl) ?_
        refine wi_str ?_
        fold_at go
        refine ⟨sz (by rw [sgnD_len]; omega), _, fun i acc O3 => acc = ((x.cps.toList.take i).map fun c => decide (c ∈ lettersS.cps.toList)).map .bl ∧ O3 = O, .cons .nil (.there .here), ⟨rfl, rfl⟩, fun _ _ _ _ _ => trivial, ?_, ?_⟩
        · rintro H1 i d acc O3 q hi ⟨rfl, rfl⟩ hq'
          obtain ⟨c, hc, rfl, hlt⟩ := sgnD_get hi
          intro X
          refine wgx_name (by fold_at mem) (by fold_at mem) (.there .here) ?_
          intro X
          refine ⟨fun _ X => ?_, fun h => by cases h⟩
          fold_at go
          refine wn_gs i_LETTERS (by fold_at mem) ?_
          refine ow_inSgn ?_
          refine ⟨_, rfl, ?_, rfl⟩
          have hg : x.cps.toList[i]? = some c := by rw [Array.getElem?_toList]; exact hc
          rw [List.take_succ, hg]
          simp [accO]
        · rintro acc O3 q ⟨rfl, rfl⟩ hq'
          refine ⟨q, _, rfl, .inl ⟨_, .here, ?_⟩⟩
          fold_at go
          refine bf_all .lst ?_
          rw [sgnD_len, ← Array.length_toList, List.take_length]
          rw [show D.isNm (.str x) = (x.cps.toList.map fun c => decide (c ∈ lettersS.cps.toList)).all id by show nmOk x = _; unfold nmOk; simp [h1, h2]] at hq
          exact hq
    · have h1 : ¬ 1 ≤ x.length := by have := of_decide_eq_false h1; omega
      refine ⟨fun _ => ?_, fun h => (by cases h)⟩
      fold_at st
      fold_at go
      rw [show D.isNm (.str x) = false by show nmOk x = false; unfold nmOk; simp [h1]] at hq
      exact hq
  · have hS : d.isS = false := by simpa using h0
    rw [isNm_no hS] at hq
    refine ⟨fun _ => ?_, fun h => (by cases h)⟩
    fold_at st
    fold_at go
    exact hq
abbrev n_need_name : List Str := ["value"]
theorem sc_need_name : Sco n_need_name ["value"] ["value"] ["is_name", "BadName"] (defScope s_need_name) := sco_of (by decide +kernel)
theorem need_name_ok {M : Md} {f : Addr} {fd : FuncData} (F : Fun M.K "need_name" "need_name" s_need_name f fd) {c_BadName : Addr} (B : Bi M.mg) (h_is_name : Ent M 1 "is_name" (TIsName)) (x_BadName : EntX M "BadName" c_BadName ["value"]) : FnG M 3 f fd ["value"] (spD M.K (TNeedName c_BadName)) := by
  refine fn_body F sc_need_name (fun ds O Q E h => ?_) (fun ds O QD ED h H X => ?_)
  · obtain ⟨d, n, rfl, hn, hs, h1, h2⟩ := h
    rfl
  obtain ⟨d, n, rfl, hn, hs, h1, h2⟩ := h
  show WSs _ _ _ [("value", some (d))] O _
  fold_at st
  fold_at go
  refine ⟨d, n, rfl, hn, hs, ?_⟩
  fold_at go
  refine ⟨_, .bl, fun h => ?_, fun h => ?_⟩
  · fold_at st
    fold_at go
    exact ⟨rfl, h2 (by simpa using h)⟩
  · fold_at st
    fold_at st
    exact h1 (by simpa using h)
abbrev n_number_in : List Str := ["word", "sign"]
theorem sc_number_in : Sco n_number_in ["word"] ["word"] ["len", "MOST_FIGURES", "all", "int"] (defScope s_number_in) := sco_of (by decide +kernel)
theorem number_in_ok {M : Md} {f : Addr} {fd : FuncData} (F : Fun M.K "number_in" "number_in" s_number_in f fd) (B : Bi M.mg) (i_FIGURES : GS M.mg "FIGURES" figuresS) (i_MOST_FIGURES : GI M.mg "MOST_FIGURES" 60) : FnG M 1 f fd ["word"] (spD M.K (TNumIn)) := by
  refine fn_body F sc_number_in (fun ds O Q E h => ?_) (fun ds O QD ED h H X => ?_)
  · obtain ⟨x, rfl, hl, hq⟩ := h
    rfl
  obtain ⟨x, rfl, hl, hq⟩ := h
  show WSs _ _ _ [("word", some (.str x)), ("sign", none)] O _
  fold_at au
  refine ow_eqS (t := decide (x = "")) rfl ?_
  refine ⟨_, rfl, fun h0 => ?_, fun h0 => ?_⟩
  · have h0 : x ≠ "" := of_decide_eq_false h0
    fold_at au
    refine bf_len_str hl ?_
    fold_at au
    refine ⟨fun h1 => ?_, fun h1 => ?_⟩
    · have h1 : x.length ≤ 60 := by have := of_decide_eq_false h1; omega
      fold_at au
      refine we_lcf ["sign"] ["FIGURES"] ["sign"] (sgnF figuresS) (by show blkB n_number_in (defScope s_number_in) _ _ _ _ = true; decide +kernel) (fun _ _ => rfl) ?_
      refine wi_str ?_
      fold_at au
      refine ⟨by rw [sgnD_len]; exact hl, fun _ => trivial, ?_, _, .cons .nil (by fold_at up), fun H1 d hd a acc => ?_⟩
      case refine_2 =>
        obtain ⟨i, hi⟩ := List.getElem?_of_mem hd
        obtain ⟨c, _, rfl, _⟩ := sgnD_get hi
        intro X
        refine wgx_name (by fold_at mem) (by fold_at mem) (by fold_at up) ?_
        intro X
        refine ⟨fun _ X => ?_, fun h => (by cases h)⟩
        fold_at au
        exact ow_inSgn ⟨rfl, rfl⟩
      rw [sgn_fm]
      fold_at au
      refine bf_all .lst ?_
      fold_at au
      refine ⟨figOk x, .bl, fun h2 => ?_, fun h2 => ?_⟩
      · have h2 : figOk x = false := by simpa using h2
        fold_at au
        have e : numD x = .non := by unfold numD numIn; rw [if_pos (.inr (.inr h2))]
        rw [e] at hq
        exact hq
      · have h2 : figOk x = true := by simpa using h2
        obtain ⟨n, hn⟩ := num_some h0 h1 h2
        have en : ¬ (x = "" ∨ 60 < x.length ∨ figOk x = false) := by
          rintro (z | z | z)
          · exact h0 z
          · omega
          · rw [h2] at z; cases z
        obtain ⟨c, l, hcl⟩ := str_head h0
        fold_at au
        refine ow_eqS (t := decide (x = "0")) rfl ?_
        refine ⟨_, rfl, fun h3 => ?_, fun h3 => ?_⟩
        · have h3 : x ≠ "0" := of_decide_eq_false h3
          refine wu_or1 (wt_cmp rfl ?_)
          refine we_ixS (fun _ _ => rfl) ?_
          fold_at au
          refine ⟨x, 0, c, rfl, rfl, hl, (by rw [hcl]; exact atI_hd), ?_⟩
          fold_at au
          have e0 : (("0" : Str)) = ⟨#[48]⟩ := by decide +kernel
          refine ow_neS (t := decide (c = 48)) (decide_eq_decide.mpr ⟨fun e => by rw [e0] at e; injection e with e; injection e with e; injection e, fun e => by rw [e, e0]⟩) ?_
          refine ⟨_, rfl, fun h4 => ?_, fun h4 => ?_⟩
          · have h4 : c ≠ 48 := by simpa using h4
            fold_at au
            refine bf_intS hn (by omega) ?_
            have e : numD x = .int n := by unfold numD numIn; rw [if_neg en, if_pos (.inr (by rw [hcl]; simpa using h4)), hn]
            rw [e] at hq
            exact hq
          · have h4 : c = 48 := by simpa using h4
            fold_at au
            have e : numD x = .non := by unfold numD numIn; rw [if_neg en, if_neg (fun z => z.elim h3 fun z => z (by rw [hcl, h4]; rfl))]
            rw [e] at hq
            exact hq
        · have h3 : x = "0" := of_decide_eq_true h3
          fold_at au
          refine bf_intS hn (by omega) ?_
          have e : numD x = .int n := by unfold numD numIn; rw [if_neg en, if_pos (.inl h3), hn]
          rw [e] at hq
          exact hq
    · have h1 : 60 < x.length := by have := of_decide_eq_true h1; omega
      fold_at au
      have e : numD x = .non := by unfold numD numIn; rw [if_pos (.inr (.inl h1))]
      rw [e] at hq
      exact hq
  · have h0 : x = "" := of_decide_eq_true h0
    refine ⟨fun _ => ?_, fun h => (by cases h)⟩
    fold_at au
    have e : numD x = .non := by unfold numD numIn; rw [if_pos (.inl h0)]
    rw [e] at hq
    exact hq
abbrev n_Words___init__ : List Str := ["self", "text", "line"]
theorem sc_Words___init__ : Sco n_Words___init__ ["self", "text", "line"] ["self", "text", "line"] ["isinstance", "str", "BadText"] (defScope m_Words___init__) := sco_of (by decide +kernel)
theorem Words___init___ok {M : Md} {f : Addr} {fd : FuncData} (F : FunD M.K "__init__" "Words.__init__" (defArgs m_Words___init__) (defBody m_Words___init__) (defScope m_Words___init__) ([.int 0] : List V) [] f fd) {c_BadText : Addr} {c_Words : Addr} (B : Bi M.mg) (x_BadText : EntX M "BadText" c_BadText ["line", "word"]) (cl_Words : Cls M.K c_Words) (na_Words_split_words : NoAttr M.K c_Words "split_words") (na_Words_line_index : NoAttr M.K c_Words "line_index") (na_Words_next_index : NoAttr M.K c_Words "next_index") : FnG M 3 f fd ["self", "text", "line"] (spD M.K (TWordsI M.K c_Words c_BadText)) := by
  refine fn_bodyV F sc_Words___init__ (fun ds O Q E h => ?_) (fun ds O QD ED h H X => ?_)
  · obtain ⟨a, v, rfl, ⟨_, hn, hkt⟩, hat, h1, h2⟩ := h
    rfl
  obtain ⟨a, v, rfl, ⟨_, hn, hkt⟩, hat, h1, h2⟩ := h
  show WSs _ _ _ [("self", some (.ref a)), ("text", some (v)), ("line", some (.int 0))] O _
  fold_at au
  refine ⟨_, .bl, fun h0 => ?_, fun h0 => ?_⟩
  · fold_at au
    exact h1 (by simpa using h0)
  · obtain ⟨x, rfl⟩ := isS_ex (d := v) (by simpa using h0)
    obtain ⟨hx, hq⟩ := h2 x rfl
    obtain ⟨O4, v4⟩ : ∃ O4, OUp O a (.ins c_Words []) (.ins c_Words (wsF (Txt.split x " ") 0)) O4 := (OUp.same hat).re _ |>.imp fun _ h => h.1
    have hq := hq O4 v4
    obtain ⟨O2, u1, v1⟩ := v4.re (.ins c_Words [("split_words", .lst ((Txt.split x " ").map .str))])
    obtain ⟨O3, u2, v2⟩ := v1.re (.ins c_Words [("split_words", .lst ((Txt.split x " ").map .str)), ("line_index", .int 0)])
    fold_at st
    refine wss_step ?_
    intro P1
    refine ws_fld (fun _ => rfl) ?_
    refine we_split (fun _ => rfl) (fun _ => rfl) rfl (fun _ => rfl) ?_
    fold_at go
    refine ⟨sz2 hx, ?_⟩
    fold_at go
    refine ⟨by decide +kernel, ?_⟩
    fold_at go
    refine ⟨a, c_Words, [], O2, rfl, u1, cl_Words, na_Words_split_words, by decide, ?_⟩
    refine wss_step ?_
    intro P2
    refine ws_fld (fun _ => rfl) ?_
    fold_at go
    refine ⟨a, c_Words, [("split_words", .lst ((Txt.split x " ").map .str))], O3, rfl, by rw [putD_ne (by decide +kernel)]; exact u2, cl_Words, na_Words_line_index, (by show 1 < 1000; decide), ?_⟩
    refine wss_step ?_
    intro P3
    refine ws_fld (fun _ => rfl) ?_
    fold_at go
    refine ⟨a, c_Words, [("split_words", .lst ((Txt.split x " ").map .str)), ("line_index", .int 0)], O4, rfl, by rw [putD_ne (by decide +kernel), putD_ne (by decide +kernel)]; exact v2, cl_Words, na_Words_next_index, (by show 2 < 1000; decide), ?_⟩
    fold_at st
    exact hq
abbrev n_Words_refuse : List Str := ["self", "index"]
theorem sc_Words_refuse : Sco n_Words_refuse ["self", "index"] ["self", "index"] ["BadText"] (defScope m_Words_refuse) := sco_of (by decide +kernel)
theorem Words_refuse_ok {M : Md} {f : Addr} {fd : FuncData} (F : FunD M.K "refuse" "Words.refuse" (defArgs m_Words_refuse) (defBody m_Words_refuse) (defScope m_Words_refuse) ([.non] : List V) [] f fd) {c_BadText : Addr} {c_Words : Addr} (B : Bi M.mg) (x_BadText : EntX M "BadText" c_BadText ["line", "word"]) (cl_Words : Cls M.K c_Words) (na_Words_split_words : NoAttr M.K c_Words "split_words") (na_Words_line_index : NoAttr M.K c_Words "line_index") (na_Words_next_index : NoAttr M.K c_Words "next_index") : FnG M 3 f fd ["self", "index"] (spD M.K (TRefuse c_Words c_BadText)) := by
  refine fn_bodyV F sc_Words_refuse (fun ds O Q E h => ?_) (fun ds O QD ED h H X => ?_)
  · obtain ⟨a, ws, i, rfl, hat, he⟩ := h
    rfl
  obtain ⟨a, ws, i, rfl, hat, he⟩ := h
  show WSs _ _ _ [("self", some (.ref a)), ("index", some (.non))] O _
  fold_at au
  exact he
abbrev n_Words_is_over : List Str := ["self"]
theorem sc_Words_is_over : Sco n_Words_is_over ["self"] ["self"] ["len"] (defScope m_Words_is_over) := sco_of (by decide +kernel)
theorem Words_is_over_ok {M : Md} {f : Addr} {fd : FuncData} (F : Fun M.K "is_over" "Words.is_over" m_Words_is_over f fd) {c_Words : Addr} (B : Bi M.mg) (cl_Words : Cls M.K c_Words) (na_Words_split_words : NoAttr M.K c_Words "split_words") (na_Words_line_index : NoAttr M.K c_Words "line_index") (na_Words_next_index : NoAttr M.K c_Words "next_index") : FnG M 1 f fd ["self"] (spD M.K (TIsOver c_Words)) := by
  refine fn_body F sc_Words_is_over (fun ds O Q E h => ?_) (fun ds O QD ED h H X => ?_)
  · obtain ⟨a, ws, i, rfl, hat, ok, hq⟩ := h
    rfl
  obtain ⟨a, ws, i, rfl, hat, ok, hq⟩ := h
  show WSs _ _ _ [("self", some (.ref a))] O _
  fold_at au
  have e : decide ((i : Int) = (((ws.map D.str).length : Nat) : Int)) = decide (i = ws.length) := by
    rw [List.length_map]
    exact decide_eq_decide.mpr (by omega)
  rw [← e] at hq
  exact hq
abbrev n_Words_upcoming : List Str := ["self"]
theorem sc_Words_upcoming : Sco n_Words_upcoming ["self"] ["self"] [] (defScope m_Words_upcoming) := sco_of (by decide +kernel)
theorem Words_upcoming_ok {M : Md} {f : Addr} {fd : FuncData} (F : Fun M.K "upcoming" "Words.upcoming" m_Words_upcoming f fd) {c_Words : Addr} (B : Bi M.mg) (h_Words_is_over : EntM M 1 c_Words "is_over" (TIsOver c_Words)) (cl_Words : Cls M.K c_Words) (na_Words_split_words : NoAttr M.K c_Words "split_words") (na_Words_line_index : NoAttr M.K c_Words "line_index") (na_Words_next_index : NoAttr M.K c_Words "next_index") : FnG M 3 f fd ["self"] (spD M.K (TUpc c_Words)) := by
  refine fn_body F sc_Words_upcoming (fun ds O Q E h => ?_) (fun ds O QD ED h H X => ?_)
  · obtain ⟨a, ws, i, rfl, hat, ok, hq⟩ := h
    rfl
  obtain ⟨a, ws, i, rfl, hat, ok, hq⟩ := h
  show WSs _ _ _ [("self", some (.ref a))] O _
  fold_at au
  refine ⟨_, ws, i, rfl, hat, ok, ?_⟩
  fold_at au
  refine ⟨_, .bl, fun h => ?_, fun h => ?_⟩
  · have h : i = ws.length := of_decide_eq_true h
    fold_at au
    rw [upS_ge (by rw [List.getElem?_eq_none_iff]; omega)] at hq
    exact hq
  · have h : i < ws.length := by have := of_decide_eq_false h; have := ok.le; omega
    obtain ⟨x, hx⟩ := ws_ex h
    fold_at au
    refine ⟨_, _, _, .l .lst, rfl, ws_at hx, ?_⟩
    rw [upS_lt hx] at hq
    exact hq
abbrev n_Words_skip : List Str := ["self"]
theorem sc_Words_skip : Sco n_Words_skip ["self"] ["self"] [] (defScope m_Words_skip) := sco_of (by decide +kernel)
theorem Words_skip_ok {M : Md} {f : Addr} {fd : FuncData} (F : Fun M.K "skip" "Words.skip" m_Words_skip f fd) {c_Words : Addr} {c_BadText : Addr} (B : Bi M.mg) (h_Words_is_over : EntM M 1 c_Words "is_over" (TIsOver c_Words)) (h_Words_refuse : EntM M 3 c_Words "refuse" (fun ds O Q E => (TRefuse c_Words c_BadText) (ds ++ ([.non] : List D)) O Q E)) (cl_Words : Cls M.K c_Words) (na_Words_split_words : NoAttr M.K c_Words "split_words") (na_Words_line_index : NoAttr M.K c_Words "line_index") (na_Words_next_index : NoAttr M.K c_Words "next_index") : FnG M 5 f fd ["self"] (spD M.K (TSkip c_Words c_BadText)) := by
  refine fn_body F sc_Words_skip (fun ds O Q E h => ?_) (fun ds O QD ED h H X => ?_)
  · obtain ⟨a, ws, i, O2, rfl, u, ok, he, hq⟩ := h
    rfl
  obtain ⟨a, ws, i, O2, rfl, u, ok, he, hq⟩ := h
  show WSs _ _ _ [("self", some (.ref a))] O _
  have hat := u.at_.1
  fold_at au
  refine ⟨_, ws, i, rfl, hat, ok, ?_⟩
  fold_at au
  refine ⟨_, .bl, fun h => ?_, fun h => ?_⟩
  · have h : i = ws.length := of_decide_eq_true h
    fold_at au
    exact ⟨_, ws, i, rfl, hat, he h⟩
  · have h : i < ws.length := by have := of_decide_eq_false h; have := ok.le; omega
    obtain ⟨x, hx⟩ := ws_ex h
    have hq := hq x hx
    have hat2 := u.new
    fold_at au
    refine ws_fldaug ?_
    fold_at go
    refine ⟨a, c_Words, _, i, rfl, hat, cl_Words, na_Words_next_index, .there rfl (.there rfl .here), ?_⟩
    fold_at go
    refine ⟨1, wsF ws i, O2, rfl, by rw [ws_put]; exact u, (by show 3 < 1000; decide), ?_⟩
    fold_at au
    refine ⟨_, _, _, .l .lst, rfl, (by rw [show ((i + 1 : Nat) : Int) - 1 = (i : Int) by omega]; exact ws_at hx), ?_⟩
    exact hq
abbrev n_Words_take_of : List Str := ["self", "some"]
theorem sc_Words_take_of : Sco n_Words_take_of ["self", "some"] ["self", "some"] [] (defScope m_Words_take_of) := sco_of (by decide +kernel)
theorem Words_take_of_ok {M : Md} {f : Addr} {fd : FuncData} (F : Fun M.K "take_of" "Words.take_of" m_Words_take_of f fd) {c_Words : Addr} {c_BadText : Addr} (B : Bi M.mg) (h_Words_upcoming : EntM M 3 c_Words "upcoming" (TUpc c_Words)) (h_Words_refuse : EntM M 3 c_Words "refuse" (fun ds O Q E => (TRefuse c_Words c_BadText) (ds ++ ([.non] : List D)) O Q E)) (h_Words_skip : EntM M 5 c_Words "skip" (TSkip c_Words c_BadText)) (cl_Words : Cls M.K c_Words) (na_Words_split_words : NoAttr M.K c_Words "split_words") (na_Words_line_index : NoAttr M.K c_Words "line_index") (na_Words_next_index : NoAttr M.K c_Words "next_index") : FnG M 7 f fd ["self", "some"] (spD M.K (TTakeOf c_Words c_BadText)) := by
  refine fn_body F sc_Words_take_of (fun ds O Q E h => ?_) (fun ds O QD ED h H X => ?_)
  · obtain ⟨a, ws, i, x, xs, O2, rfl, u, ok, rfl, hq, he⟩ := h
    rfl
  obtain ⟨a, ws, i, x, xs, O2, rfl, u, ok, rfl, hq, he⟩ := h
  show WSs _ _ _ [("self", some (.ref a)), ("some", some (.ktup (xs.map .str)))] O _
  have hat := u.at_.1
  fold_at au
  refine ⟨_, ws, i, rfl, hat, ok, ?_⟩
  cases hx : ws[i]? with
  | none =>
    rw [upS_ge hx]
    fold_at au
    exact ⟨_, ws, i, rfl, hat, he fun y h => by rw [hx] at h; cases h⟩
  | some y =>
    have hix : i < ws.length := (List.getElem?_eq_some_iff.mp hx).1
    rw [upS_lt hx]
    fold_at au
    refine ⟨_, ws, i, rfl, hat, ok, ?_⟩
    rw [upS_lt hx]
    fold_at au
    refine ow_notinSs (xs := xs) (.t .ktup) rfl ?_
    refine ⟨_, rfl, fun h => ?_, fun h => ?_⟩
    · have h : ¬ y ∈ xs := by simpa using h
      fold_at au
      exact ⟨_, ws, i, rfl, hat, he fun z hz => by rw [hx] at hz; cases hz; exact h⟩
    · have h : y ∈ xs := by simpa using h
      fold_at au
      refine ⟨_, ws, i, O2, rfl, u, ok, fun e => absurd e (by omega), fun z hz => ?_⟩
      rw [hx] at hz
      cases hz
      fold_at au
      exact hq y hx h
abbrev n_Words_take_name : List Str := ["self"]
theorem sc_Words_take_name : Sco n_Words_take_name ["self"] ["self"] ["is_name"] (defScope m_Words_take_name) := sco_of (by decide +kernel)
theorem Words_take_name_ok {M : Md} {f : Addr} {fd : FuncData} (F : Fun M.K "take_name" "Words.take_name" m_Words_take_name f fd) {c_Words : Addr} {c_BadText : Addr} (B : Bi M.mg) (h_is_name : Ent M 1 "is_name" (TIsName)) (h_Words_upcoming : EntM M 3 c_Words "upcoming" (TUpc c_Words)) (h_Words_refuse : EntM M 3 c_Words "refuse" (fun ds O Q E => (TRefuse c_Words c_BadText) (ds ++ ([.non] : List D)) O Q E)) (h_Words_skip : EntM M 5 c_Words "skip" (TSkip c_Words c_BadText)) (cl_Words : Cls M.K c_Words) (na_Words_split_words : NoAttr M.K c_Words "split_words") (na_Words_line_index : NoAttr M.K c_Words "line_index") (na_Words_next_index : NoAttr M.K c_Words "next_index") : FnG M 7 f fd ["self"] (spD M.K (TTakeNm c_Words c_BadText)) := by
  refine fn_body F sc_Words_take_name (fun ds O Q E h => ?_) (fun ds O QD ED h H X => ?_)
  · obtain ⟨a, ws, i, O2, rfl, u, ok, hq, he⟩ := h
    rfl
  obtain ⟨a, ws, i, O2, rfl, u, ok, hq, he⟩ := h
  show WSs _ _ _ [("self", some (.ref a))] O _
  have hat := u.at_.1
  fold_at au
  refine ⟨_, ws, i, rfl, hat, ok, ?_⟩
  cases hx : ws[i]? with
  | none =>
    rw [upS_ge hx]
    fold_at au
    refine ⟨.non, "NoneType", rfl, rfl, trivial, ?_⟩
    fold_at au
    exact ⟨_, ws, i, rfl, hat, he fun y h => by rw [hx] at h; cases h⟩
  | some y =>
    have hix : i < ws.length := (List.getElem?_eq_some_iff.mp hx).1
    have hyl := ok.sh y (List.mem_of_getElem? hx)
    rw [upS_lt hx]
    fold_at au
    refine ⟨.str y, "str", rfl, rfl, szB (show y.length ≤ 200000 by omega), ?_⟩
    fold_at au
    refine ⟨_, .bl, fun h => ?_, fun h => ?_⟩
    · have h : nmOk y = false := by simpa [D.isNm] using h
      fold_at au
      exact ⟨_, ws, i, rfl, hat, he fun z hz => by rw [hx] at hz; cases hz; exact h⟩
    · have h : nmOk y = true := by simpa [D.isNm] using h
      fold_at au
      refine ⟨_, ws, i, O2, rfl, u, ok, fun e => absurd e (by omega), fun z hz => ?_⟩
      rw [hx] at hz
      cases hz
      fold_at au
      exact hq y hx h
abbrev n_Words_take_number : List Str := ["self", "least", "most", "word", "number"]
theorem sc_Words_take_number : Sco n_Words_take_number ["self", "least", "most", "word", "number"] ["self", "least", "most"] ["number_in"] (defScope m_Words_take_number) := sco_of (by decide +kernel)
theorem Words_take_number_ok {M : Md} {f : Addr} {fd : FuncData} (F : FunD M.K "take_number" "Words.take_number" (defArgs m_Words_take_number) (defBody m_Words_take_number) (defScope m_Words_take_number) ([.non] : List V) [] f fd) {c_Words : Addr} {c_BadText : Addr} (B : Bi M.mg) (h_number_in : Ent M 1 "number_in" (TNumIn)) (h_Words_upcoming : EntM M 3 c_Words "upcoming" (TUpc c_Words)) (h_Words_refuse : EntM M 3 c_Words "refuse" (fun ds O Q E => (TRefuse c_Words c_BadText) (ds ++ ([.non] : List D)) O Q E)) (h_Words_skip : EntM M 5 c_Words "skip" (TSkip c_Words c_BadText)) (cl_Words : Cls M.K c_Words) (na_Words_split_words : NoAttr M.K c_Words "split_words") (na_Words_line_index : NoAttr M.K c_Words "line_index") (na_Words_next_index : NoAttr M.K c_Words "next_index") : FnG M 7 f fd ["self", "least", "most"] (spD M.K (TTakeN c_Words c_BadText)) := by
  refine fn_bodyV F sc_Words_take_number (fun ds O Q E h => ?_) (fun ds O QD ED h H X => ?_)
  · obtain ⟨a, ws, i, lo, hi, O2, rfl, u, ok, hq, he⟩ := h
    rfl
  obtain ⟨a, ws, i, lo, hi, O2, rfl, u, ok, hq, he⟩ := h
  show WSs _ _ _ [("self", some (.ref a)), ("least", some (.int lo)), ("most", some (.int hi)), ("word", none), ("number", none)] O _
  have hat := u.at_.1
  fold_at au
  refine ⟨_, ws, i, rfl, hat, ok, ?_⟩
  cases hx : ws[i]? with
  | none =>
    rw [upS_ge hx]
    fold_at au
    exact ⟨_, ws, i, rfl, hat, he fun x n h => by rw [hx] at h; cases h⟩
  | some x =>
    have hix : i < ws.length := (List.getElem?_eq_some_iff.mp hx).1
    have hxl := ok.sh x (List.mem_of_getElem? hx)
    rw [upS_lt hx]
    fold_at au
    refine ⟨x, rfl, szB (by omega), ?_⟩
    cases hn : numIn x with
    | none =>
      rw [show numD x = .non by unfold numD; rw [hn]]
      fold_at au
      exact ⟨_, ws, i, rfl, hat, he fun y n h h2 => by rw [hx] at h; cases h; rw [hn] at h2; cases h2⟩
    | some n =>
      rw [show numD x = .int n by unfold numD; rw [hn]]
      have no : ¬ (lo ≤ n ∧ n ≤ hi) → ∀ y m, some x = some y → numIn y = some m → lo ≤ m → m ≤ hi → False := fun h y m h1 h2 h3 h4 => by
        cases h1
        rw [hn] at h2
        cases h2
        exact h ⟨h3, h4⟩
      rw [← hx] at no
      fold_at au
      refine ⟨fun h1 => ?_, fun h1 => ?_⟩
      · have h1 : lo ≤ n := by have := of_decide_eq_false h1; omega
        fold_at au
        refine ⟨fun h2 => ?_, fun h2 => ?_⟩
        · have h2 : hi < n := by have := of_decide_eq_true h2; omega
          fold_at au
          exact ⟨_, ws, i, rfl, hat, he (no (by omega))⟩
        · have h2 : n ≤ hi := by have := of_decide_eq_false h2; omega
          fold_at au
          refine ⟨_, ws, i, O2, rfl, u, ok, fun e => absurd e (by omega), fun y hy => ?_⟩
          fold_at au
          exact hq x n hx hn h1 h2
      · have h1 : n < lo := by have := of_decide_eq_true h1; omega
        fold_at au
        exact ⟨_, ws, i, rfl, hat, he (no (by omega))⟩
abbrev n_Words_close : List Str := ["self"]
theorem sc_Words_close : Sco n_Words_close ["self"] ["self"] [] (defScope m_Words_close) := sco_of (by decide +kernel)
theorem Words_close_ok {M : Md} {f : Addr} {fd : FuncData} (F : Fun M.K "close" "Words.close" m_Words_close f fd) {c_Words : Addr} {c_BadText : Addr} (B : Bi M.mg) (h_Words_is_over : EntM M 1 c_Words "is_over" (TIsOver c_Words)) (h_Words_refuse : EntM M 3 c_Words "refuse" (fun ds O Q E => (TRefuse c_Words c_BadText) (ds ++ ([.non] : List D)) O Q E)) (cl_Words : Cls M.K c_Words) (na_Words_split_words : NoAttr M.K c_Words "split_words") (na_Words_line_index : NoAttr M.K c_Words "line_index") (na_Words_next_index : NoAttr M.K c_Words "next_index") : FnG M 5 f fd ["self"] (spD M.K (TClose c_Words c_BadText)) := by
  refine fn_body F sc_Words_close (fun ds O Q E h => ?_) (fun ds O QD ED h H X => ?_)
  · obtain ⟨a, ws, i, rfl, hat, ok, hq, he⟩ := h
    rfl
  obtain ⟨a, ws, i, rfl, hat, ok, hq, he⟩ := h
  show WSs _ _ _ [("self", some (.ref a))] O _
  fold_at au
  refine ⟨_, ws, i, rfl, hat, ok, ?_⟩
  fold_at au
  refine ⟨_, .bl, fun h => ?_, fun h => ?_⟩
  · have h : i < ws.length := by have := of_decide_eq_false (by simpa using h : decide (i = ws.length) = false); have := ok.le; omega
    fold_at au
    exact ⟨_, ws, i, rfl, hat, he h⟩
  · have h : i = ws.length := by simpa using h
    fold_at au
    exact hq h
abbrev n_Tie___init__ : List Str := ["self", "source"]
theorem sc_Tie___init__ : Sco n_Tie___init__ ["self", "source"] ["self", "source"] ["need_name"] (defScope m_Tie___init__) := sco_of (by decide +kernel)
theorem Tie___init___ok {M : Md} {f : Addr} {fd : FuncData} (F : Fun M.K "__init__" "Tie.__init__" m_Tie___init__ f fd) {c_BadName : Addr} (B : Bi M.mg) (h_need_name : Ent M 3 "need_name" (TNeedName c_BadName)) : FnG M 5 f fd ["self", "source"] (spD M.K (TTieI M.K c_BadName)) := by
  refine fn_body F sc_Tie___init__ (fun ds O Q E h => ?_) (fun ds O QD ED h H X => ?_)
  · obtain ⟨a, Cl, v, n, rfl, hn, hs, hat, hc, hna, h1, h2⟩ := h
    rfl
  obtain ⟨a, Cl, v, n, rfl, hn, hs, hat, hc, hna, h1, h2⟩ := h
  show WSs _ _ _ [("self", some (.ref a)), ("source", some (v))] O _
  fold_at st
  fold_at go
  refine ⟨v, n, rfl, hn, hs, fun hv => ?_, fun hv => h2 hv⟩
  have h1 := h1 hv
  obtain ⟨O', u⟩ : ∃ O', OUp O a (.ins Cl []) (.ins Cl [("source", v)]) O' := (OUp.same hat).re _ |>.imp fun _ h => h.1
  refine wss_step ?_
  intro P1
  refine ws_fld (fun _ => rfl) ?_
  fold_at go
  refine ⟨a, Cl, [], O', rfl, u, hc, hna, by decide, ?_⟩
  fold_at st
  exact h1 O' u
abbrev n_Numbered___init__ : List Str := ["self", "number"]
theorem sc_Numbered___init__ : Sco n_Numbered___init__ ["self", "number"] ["self", "number"] [] (defScope m_Numbered___init__) := sco_of (by decide +kernel)
theorem Numbered___init___ok {M : Md} {f : Addr} {fd : FuncData} (F : Fun M.K "__init__" "Numbered.__init__" m_Numbered___init__ f fd) (B : Bi M.mg) : FnG M 1 f fd ["self", "number"] (spD M.K (TNumbI M.K)) := by
  refine fn_body F sc_Numbered___init__ (fun ds O Q E h => ?_) (fun ds O QD ED h H X => ?_)
  · obtain ⟨a, Cl, fs, v, O2, rfl, hu, hl, hc, hna, hq⟩ := h
    rfl
  obtain ⟨a, Cl, fs, v, O2, rfl, hu, hl, hc, hna, hq⟩ := h
  show WSs _ _ _ [("self", some (.ref a)), ("number", some (v))] O _
  refine wss_step ?_
  intro P1
  refine ws_fld (fun _ => rfl) ?_
  fold_at go
  refine ⟨a, Cl, fs, O2, rfl, hu, hc, hna, hl, ?_⟩
  fold_at st
  exact hq
abbrev n_Back___init__ : List Str := ["self", "source", "number"]
theorem sc_Back___init__ : Sco n_Back___init__ ["self", "source", "number"] ["self", "source", "number"] ["Tie", "is_within", "MOST_OFFSET", "BadNumber", "Numbered"] (defScope m_Back___init__) := sco_of (by decide +kernel)
theorem Back___init___ok {M : Md} {f : Addr} {fd : FuncData} (F : Fun M.K "__init__" "Back.__init__" m_Back___init__ f fd) {c_Tie : Addr} {c_BadName : Addr} {c_Numbered : Addr} {c_BadNumber : Addr} {c_Back : Addr} (B : Bi M.mg) (h_is_within : Ent M 3 "is_within" (TWithinD)) (u_Tie___init__ : EntU M 5 c_Tie "__init__" (TTieI M.K c_BadName)) (u_Numbered___init__ : EntU M 1 c_Numbered "__init__" (TNumbI M.K)) (x_BadNumber : EntX M "BadNumber" c_BadNumber ["value"]) (i_MOST_OFFSET : GI M.mg "MOST_OFFSET" 60) (g_Tie : M.mg "Tie" = some (.ref c_Tie)) (g_Numbered : M.mg "Numbered" = some (.ref c_Numbered)) (cl_Back : Cls M.K c_Back) (na_Back_source : NoAttr M.K c_Back "source") (na_Back_number : NoAttr M.K c_Back "number") : FnG M 8 f fd ["self", "source", "number"] (spD M.K (TNumI c_Back c_BadName c_BadNumber 0)) := by
  refine fn_body F sc_Back___init__ (fun ds O Q E h => ?_) (fun ds O QD ED h H X => ?_)
  · obtain ⟨a, v, w, n, m, rfl, hn, hs, hm, hat, h1, h2, h3⟩ := h
    rfl
  obtain ⟨a, v, w, n, m, rfl, hn, hs, hm, hat, h1, h2, h3⟩ := h
  show WSs _ _ _ [("self", some (.ref a)), ("source", some (v)), ("number", some (w))] O _
  have hc := cl_Back
  obtain ⟨O4, v4⟩ : ∃ O4, OUp O a (.ins c_Back []) (.ins c_Back [("source", v), ("number", w)]) O4 := (OUp.same hat).re _ |>.imp fun _ h => h.1
  obtain ⟨O1, u1, v1⟩ := v4.re (.ins c_Back [("source", v)])
  fold_at st
  refine we_uc u_Tie___init__ (Nat.le_of_ble_eq_true rfl) (fun _ => rfl) (fun _ => rfl) (fun _ => rfl) ?_
  refine wn_cls g_Tie (by fold_at mem) ⟨rfl, ?_⟩
  fold_at go
  refine ⟨a, c_Back, v, n, rfl, hn, hs, hat, hc, na_Back_source, fun hv O' u => ?_, h1⟩
  obtain ⟨O4, v4⟩ : ∃ O4, OUp O a (.ins c_Back []) (.ins c_Back [("source", v), ("number", w)]) O4 := (OUp.same hat).re _ |>.imp fun _ h => h.1
  obtain ⟨O5, v5⟩ : ∃ O5, OUp O' a (.ins c_Back [("source", v)]) (.ins c_Back [("source", v), ("number", w)]) O5 ∧ OUp O a (.ins c_Back []) (.ins c_Back [("source", v), ("number", w)]) O5 := u.more _
  have h2 := h2 hv
  have h3 := h3 hv
  fold_at st
  fold_at go
  refine ⟨w, 0, 60, m, rfl, hm, ?_⟩
  fold_at go
  refine ⟨_, .bl, fun h => ?_, fun h => ?_⟩
  · have hb : w.inB 0 60 = false := by simpa using h
    fold_at st
    fold_at go
    exact ⟨rfl, h2 hb O' u⟩
  · have hb : w.inB 0 60 = true := by simpa using h
    fold_at st
    fold_at st
    refine we_uc u_Numbered___init__ (Nat.le_of_ble_eq_true rfl) (fun _ => rfl) (fun _ => rfl) (fun _ => rfl) ?_
    refine wn_cls g_Numbered (by fold_at mem) ⟨rfl, ?_⟩
    fold_at go
    refine ⟨a, c_Back, [("source", v)], w, O5, rfl, ?_, (by show 1 < 1000; decide), hc, na_Back_number, ?_⟩
    · rw [putD_ne (by decide +kernel)]
      exact v5.1
    fold_at st
    exact h3 hb O5 v5.2
abbrev n_Ahead___init__ : List Str := ["self", "source", "number"]
theorem sc_Ahead___init__ : Sco n_Ahead___init__ ["self", "source", "number"] ["self", "source", "number"] ["Tie", "is_within", "MOST_OFFSET", "BadNumber", "Numbered"] (defScope m_Ahead___init__) := sco_of (by decide +kernel)
theorem Ahead___init___ok {M : Md} {f : Addr} {fd : FuncData} (F : Fun M.K "__init__" "Ahead.__init__" m_Ahead___init__ f fd) {c_Tie : Addr} {c_BadName : Addr} {c_Numbered : Addr} {c_BadNumber : Addr} {c_Ahead : Addr} (B : Bi M.mg) (h_is_within : Ent M 3 "is_within" (TWithinD)) (u_Tie___init__ : EntU M 5 c_Tie "__init__" (TTieI M.K c_BadName)) (u_Numbered___init__ : EntU M 1 c_Numbered "__init__" (TNumbI M.K)) (x_BadNumber : EntX M "BadNumber" c_BadNumber ["value"]) (i_MOST_OFFSET : GI M.mg "MOST_OFFSET" 60) (g_Tie : M.mg "Tie" = some (.ref c_Tie)) (g_Numbered : M.mg "Numbered" = some (.ref c_Numbered)) (cl_Ahead : Cls M.K c_Ahead) (na_Ahead_source : NoAttr M.K c_Ahead "source") (na_Ahead_number : NoAttr M.K c_Ahead "number") : FnG M 8 f fd ["self", "source", "number"] (spD M.K (TNumI c_Ahead c_BadName c_BadNumber 1)) := by
  refine fn_body F sc_Ahead___init__ (fun ds O Q E h => ?_) (fun ds O QD ED h H X => ?_)
  · obtain ⟨a, v, w, n, m, rfl, hn, hs, hm, hat, h1, h2, h3⟩ := h
    rfl
  obtain ⟨a, v, w, n, m, rfl, hn, hs, hm, hat, h1, h2, h3⟩ := h
  show WSs _ _ _ [("self", some (.ref a)), ("source", some (v)), ("number", some (w))] O _
  have hc := cl_Ahead
  obtain ⟨O4, v4⟩ : ∃ O4, OUp O a (.ins c_Ahead []) (.ins c_Ahead [("source", v), ("number", w)]) O4 := (OUp.same hat).re _ |>.imp fun _ h => h.1
  obtain ⟨O1, u1, v1⟩ := v4.re (.ins c_Ahead [("source", v)])
  fold_at st
  refine we_uc u_Tie___init__ (Nat.le_of_ble_eq_true rfl) (fun _ => rfl) (fun _ => rfl) (fun _ => rfl) ?_
  refine wn_cls g_Tie (by fold_at mem) ⟨rfl, ?_⟩
  fold_at go
  refine ⟨a, c_Ahead, v, n, rfl, hn, hs, hat, hc, na_Ahead_source, fun hv O' u => ?_, h1⟩
  obtain ⟨O4, v4⟩ : ∃ O4, OUp O a (.ins c_Ahead []) (.ins c_Ahead [("source", v), ("number", w)]) O4 := (OUp.same hat).re _ |>.imp fun _ h => h.1
  obtain ⟨O5, v5⟩ : ∃ O5, OUp O' a (.ins c_Ahead [("source", v)]) (.ins c_Ahead [("source", v), ("number", w)]) O5 ∧ OUp O a (.ins c_Ahead []) (.ins c_Ahead [("source", v), ("number", w)]) O5 := u.more _
  have h2 := h2 hv
  have h3 := h3 hv
  fold_at st
  fold_at go
  refine ⟨w, 1, 60, m, rfl, hm, ?_⟩
  fold_at go
  refine ⟨_, .bl, fun h => ?_, fun h => ?_⟩
  · have hb : w.inB 1 60 = false := by simpa using h
    fold_at st
    fold_at go
    exact ⟨rfl, h2 hb O' u⟩
  · have hb : w.inB 1 60 = true := by simpa using h
    fold_at st
    fold_at st
    refine we_uc u_Numbered___init__ (Nat.le_of_ble_eq_true rfl) (fun _ => rfl) (fun _ => rfl) (fun _ => rfl) ?_
    refine wn_cls g_Numbered (by fold_at mem) ⟨rfl, ?_⟩
    fold_at go
    refine ⟨a, c_Ahead, [("source", v)], w, O5, rfl, ?_, (by show 1 < 1000; decide), hc, na_Ahead_number, ?_⟩
    · rw [putD_ne (by decide +kernel)]
      exact v5.1
    fold_at st
    exact h3 hb O5 v5.2
abbrev n_Back___str__ : List Str := ["self"]
theorem sc_Back___str__ : Sco n_Back___str__ ["self"] ["self"] [] (defScope m_Back___str__) := sco_of (by decide +kernel)
theorem Back___str___ok {M : Md} {f : Addr} {fd : FuncData} (F : Fun M.K "__str__" "Back.__str__" m_Back___str__ f fd) {c_Back : Addr} {c_Ahead : Addr} {c_Sofar : Addr} {c_Whole : Addr} {c_Last : Addr} {c_Same : Addr} (B : Bi M.mg) (cl_Back : Cls M.K c_Back) (na_Back_source : NoAttr M.K c_Back "source") (na_Back_number : NoAttr M.K c_Back "number") : FnG M 1 f fd ["self"] (spD M.K (TStrT (TA.mk c_Back c_Ahead c_Sofar c_Whole c_Last c_Same) .back)) := by
  refine fn_body F sc_Back___str__ (fun ds O Q E h => ?_) (fun ds O QD ED h H X => ?_)
  · obtain ⟨s, n, rfl, hs, hn, hq⟩ := h
    rfl
  obtain ⟨s, n, rfl, hs, hn, hq⟩ := h
  show WSs _ _ _ [("self", some (.ins c_Back [("source", .str s), ("number", .int n)]))] O _
  refine wss_step ?_
  intro P0
  refine ws_ret (we_fstr ?_)
  refine wj_cons (we_str ⟨_, rfl, szB (by decide +kernel), ?_⟩)
  refine wj_cons (we_fmt ?_)
  refine we_fld (fun _ => rfl) ?_
  fold_at go
  refine ⟨_, _, _, .ins, cl_Back, na_Back_number, .there rfl .here, ?_⟩
  fold_at go
  refine .inr ⟨n, rfl, log_of (Nat.lt_trans hn (by decide +kernel)), ⟨_, rfl, szB (by rw [len_app]; have := toStr_len hn; have : (Str.empty ++ ("back " : Str)).length ≤ 10 := (by decide +kernel); omega), ?_⟩⟩
  refine wj_cons (we_str ⟨_, rfl, szB (by rw [len_app, len_app]; have := toStr_len hn; have : (Str.empty ++ ("back " : Str)).length ≤ 10 := (by decide +kernel); have : (" " : Str).length ≤ 1 := (by decide +kernel); omega), ?_⟩)
  refine wj_cons (we_fmt ?_)
  refine we_fld (fun _ => rfl) ?_
  fold_at go
  refine ⟨_, _, _, .ins, cl_Back, na_Back_source, .here, ?_⟩
  fold_at go
  refine .inl ⟨s, rfl, szB (by omega), ⟨_, rfl, szB (by rw [len_app, len_app, len_app]; have := toStr_len hn; have : (Str.empty ++ ("back " : Str)).length ≤ 10 := (by decide +kernel); have : (" " : Str).length ≤ 1 := (by decide +kernel); omega), ?_⟩⟩
  exact wj_nil hq
abbrev n_Ahead___str__ : List Str := ["self"]
theorem sc_Ahead___str__ : Sco n_Ahead___str__ ["self"] ["self"] [] (defScope m_Ahead___str__) := sco_of (by decide +kernel)
theorem Ahead___str___ok {M : Md} {f : Addr} {fd : FuncData} (F : Fun M.K "__str__" "Ahead.__str__" m_Ahead___str__ f fd) {c_Ahead : Addr} {c_Back : Addr} {c_Sofar : Addr} {c_Whole : Addr} {c_Last : Addr} {c_Same : Addr} (B : Bi M.mg) (cl_Ahead : Cls M.K c_Ahead) (na_Ahead_source : NoAttr M.K c_Ahead "source") (na_Ahead_number : NoAttr M.K c_Ahead "number") : FnG M 1 f fd ["self"] (spD M.K (TStrT (TA.mk c_Back c_Ahead c_Sofar c_Whole c_Last c_Same) .ahead)) := by
  refine fn_body F sc_Ahead___str__ (fun ds O Q E h => ?_) (fun ds O QD ED h H X => ?_)
  · obtain ⟨s, n, rfl, hs, hn, hq⟩ := h
    rfl
  obtain ⟨s, n, rfl, hs, hn, hq⟩ := h
  show WSs _ _ _ [("self", some (.ins c_Ahead [("source", .str s), ("number", .int n)]))] O _
  refine wss_step ?_
  intro P0
  refine ws_ret (we_fstr ?_)
  refine wj_cons (we_str ⟨_, rfl, szB (by decide +kernel), ?_⟩)
  refine wj_cons (we_fmt ?_)
  refine we_fld (fun _ => rfl) ?_
  fold_at go
  refine ⟨_, _, _, .ins, cl_Ahead, na_Ahead_number, .there rfl .here, ?_⟩
  fold_at go
  refine .inr ⟨n, rfl, log_of (Nat.lt_trans hn (by decide +kernel)), ⟨_, rfl, szB (by rw [len_app]; have := toStr_len hn; have : (Str.empty ++ ("ahead " : Str)).length ≤ 10 := (by decide +kernel); omega), ?_⟩⟩
  refine wj_cons (we_str ⟨_, rfl, szB (by rw [len_app, len_app]; have := toStr_len hn; have : (Str.empty ++ ("ahead " : Str)).length ≤ 10 := (by decide +kernel); have : (" " : Str).length ≤ 1 := (by decide +kernel); omega), ?_⟩)
  refine wj_cons (we_fmt ?_)
  refine we_fld (fun _ => rfl) ?_
  fold_at go
  refine ⟨_, _, _, .ins, cl_Ahead, na_Ahead_source, .here, ?_⟩
  fold_at go
  refine .inl ⟨s, rfl, szB (by omega), ⟨_, rfl, szB (by rw [len_app, len_app, len_app]; have := toStr_len hn; have : (Str.empty ++ ("ahead " : Str)).length ≤ 10 := (by decide +kernel); have : (" " : Str).length ≤ 1 := (by decide +kernel); omega), ?_⟩⟩
  exact wj_nil hq
abbrev n_Sofar___str__ : List Str := ["self"]
theorem sc_Sofar___str__ : Sco n_Sofar___str__ ["self"] ["self"] [] (defScope m_Sofar___str__) := sco_of (by decide +kernel)
theorem Sofar___str___ok {M : Md} {f : Addr} {fd : FuncData} (F : Fun M.K "__str__" "Sofar.__str__" m_Sofar___str__ f fd) {c_Sofar : Addr} {c_Back : Addr} {c_Ahead : Addr} {c_Whole : Addr} {c_Last : Addr} {c_Same : Addr} (B : Bi M.mg) (cl_Sofar : Cls M.K c_Sofar) (na_Sofar_source : NoAttr M.K c_Sofar "source") : FnG M 1 f fd ["self"] (spD M.K (TStrT (TA.mk c_Back c_Ahead c_Sofar c_Whole c_Last c_Same) .sofar)) := by
  refine fn_body F sc_Sofar___str__ (fun ds O Q E h => ?_) (fun ds O QD ED h H X => ?_)
  · obtain ⟨s, n, rfl, hs, hn, hq⟩ := h
    rfl
  obtain ⟨s, n, rfl, hs, hn, hq⟩ := h
  show WSs _ _ _ [("self", some (.ins c_Sofar [("source", .str s)]))] O _
  refine wss_step ?_
  intro P0
  refine ws_ret (we_fstr ?_)
  refine wj_cons (we_str ⟨_, rfl, szB (by decide +kernel), ?_⟩)
  refine wj_cons (we_fmt ?_)
  refine we_fld (fun _ => rfl) ?_
  fold_at go
  refine ⟨_, _, _, .ins, cl_Sofar, na_Sofar_source, .here, ?_⟩
  fold_at go
  refine .inl ⟨s, rfl, szB (by omega), ⟨_, rfl, szB (by rw [len_app]; have : (Str.empty ++ ("sofar " : Str)).length ≤ 10 := (by decide +kernel); omega), ?_⟩⟩
  exact wj_nil hq
abbrev n_Whole___str__ : List Str := ["self"]
theorem sc_Whole___str__ : Sco n_Whole___str__ ["self"] ["self"] [] (defScope m_Whole___str__) := sco_of (by decide +kernel)
theorem Whole___str___ok {M : Md} {f : Addr} {fd : FuncData} (F : Fun M.K "__str__" "Whole.__str__" m_Whole___str__ f fd) {c_Whole : Addr} {c_Back : Addr} {c_Ahead : Addr} {c_Sofar : Addr} {c_Last : Addr} {c_Same : Addr} (B : Bi M.mg) (cl_Whole : Cls M.K c_Whole) (na_Whole_source : NoAttr M.K c_Whole "source") : FnG M 1 f fd ["self"] (spD M.K (TStrT (TA.mk c_Back c_Ahead c_Sofar c_Whole c_Last c_Same) .whole)) := by
  refine fn_body F sc_Whole___str__ (fun ds O Q E h => ?_) (fun ds O QD ED h H X => ?_)
  · obtain ⟨s, n, rfl, hs, hn, hq⟩ := h
    rfl
  obtain ⟨s, n, rfl, hs, hn, hq⟩ := h
  show WSs _ _ _ [("self", some (.ins c_Whole [("source", .str s)]))] O _
  refine wss_step ?_
  intro P0
  refine ws_ret (we_fstr ?_)
  refine wj_cons (we_str ⟨_, rfl, szB (by decide +kernel), ?_⟩)
  refine wj_cons (we_fmt ?_)
  refine we_fld (fun _ => rfl) ?_
  fold_at go
  refine ⟨_, _, _, .ins, cl_Whole, na_Whole_source, .here, ?_⟩
  fold_at go
  refine .inl ⟨s, rfl, szB (by omega), ⟨_, rfl, szB (by rw [len_app]; have : (Str.empty ++ ("whole " : Str)).length ≤ 10 := (by decide +kernel); omega), ?_⟩⟩
  exact wj_nil hq
abbrev n_Last___str__ : List Str := ["self"]
theorem sc_Last___str__ : Sco n_Last___str__ ["self"] ["self"] [] (defScope m_Last___str__) := sco_of (by decide +kernel)
theorem Last___str___ok {M : Md} {f : Addr} {fd : FuncData} (F : Fun M.K "__str__" "Last.__str__" m_Last___str__ f fd) {c_Last : Addr} {c_Back : Addr} {c_Ahead : Addr} {c_Sofar : Addr} {c_Whole : Addr} {c_Same : Addr} (B : Bi M.mg) (cl_Last : Cls M.K c_Last) (na_Last_source : NoAttr M.K c_Last "source") : FnG M 1 f fd ["self"] (spD M.K (TStrT (TA.mk c_Back c_Ahead c_Sofar c_Whole c_Last c_Same) .last)) := by
  refine fn_body F sc_Last___str__ (fun ds O Q E h => ?_) (fun ds O QD ED h H X => ?_)
  · obtain ⟨s, n, rfl, hs, hn, hq⟩ := h
    rfl
  obtain ⟨s, n, rfl, hs, hn, hq⟩ := h
  show WSs _ _ _ [("self", some (.ins c_Last [("source", .str s)]))] O _
  refine wss_step ?_
  intro P0
  refine ws_ret (we_fstr ?_)
  refine wj_cons (we_str ⟨_, rfl, szB (by decide +kernel), ?_⟩)
  refine wj_cons (we_fmt ?_)
  refine we_fld (fun _ => rfl) ?_
  fold_at go
  refine ⟨_, _, _, .ins, cl_Last, na_Last_source, .here, ?_⟩
  fold_at go
  refine .inl ⟨s, rfl, szB (by omega), ⟨_, rfl, szB (by rw [len_app]; have : (Str.empty ++ ("last " : Str)).length ≤ 10 := (by decide +kernel); omega), ?_⟩⟩
  exact wj_nil hq
abbrev n_Same___str__ : List Str := ["self"]
theorem sc_Same___str__ : Sco n_Same___str__ ["self"] ["self"] [] (defScope m_Same___str__) := sco_of (by decide +kernel)
theorem Same___str___ok {M : Md} {f : Addr} {fd : FuncData} (F : Fun M.K "__str__" "Same.__str__" m_Same___str__ f fd) {c_Same : Addr} {c_Back : Addr} {c_Ahead : Addr} {c_Sofar : Addr} {c_Whole : Addr} {c_Last : Addr} (B : Bi M.mg) (cl_Same : Cls M.K c_Same) (na_Same_source : NoAttr M.K c_Same "source") : FnG M 1 f fd ["self"] (spD M.K (TStrT (TA.mk c_Back c_Ahead c_Sofar c_Whole c_Last c_Same) .same)) := by
  refine fn_body F sc_Same___str__ (fun ds O Q E h => ?_) (fun ds O QD ED h H X => ?_)
  · obtain ⟨s, n, rfl, hs, hn, hq⟩ := h
    rfl
  obtain ⟨s, n, rfl, hs, hn, hq⟩ := h
  show WSs _ _ _ [("self", some (.ins c_Same [("source", .str s)]))] O _
  refine wss_step ?_
  intro P0
  refine ws_ret (we_fstr ?_)
  refine wj_cons (we_str ⟨_, rfl, szB (by decide +kernel), ?_⟩)
  refine wj_cons (we_fmt ?_)
  refine we_fld (fun _ => rfl) ?_
  fold_at go
  refine ⟨_, _, _, .ins, cl_Same, na_Same_source, .here, ?_⟩
  fold_at go
  refine .inl ⟨s, rfl, szB (by omega), ⟨_, rfl, szB (by rw [len_app]; have : (Str.empty ++ ("same " : Str)).length ≤ 10 := (by decide +kernel); omega), ?_⟩⟩
  exact wj_nil hq
abbrev n_Tie___eq__ : List Str := ["self", "other"]
theorem sc_Tie___eq__ : Sco n_Tie___eq__ ["self", "other"] ["self", "other"] ["isinstance", "Tie", "str"] (defScope m_Tie___eq__) := sco_of (by decide +kernel)
theorem Tie___eq___ok {M : Md} {f : Addr} {fd : FuncData} (F : Fun M.K "__eq__" "Tie.__eq__" m_Tie___eq__ f fd) {c_Back : Addr} {c_Ahead : Addr} {c_Sofar : Addr} {c_Whole : Addr} {c_Last : Addr} {c_Same : Addr} {c_Tie : Addr} (B : Bi M.mg) (h_str : ∀ k, EntM M 1 (TA.c (TA.mk c_Back c_Ahead c_Sofar c_Whole c_Last c_Same) k) "__str__" (TStrT (TA.mk c_Back c_Ahead c_Sofar c_Whole c_Last c_Same) k)) (h_cl : ∀ k, Cls M.K (TA.c (TA.mk c_Back c_Ahead c_Sofar c_Whole c_Last c_Same) k)) (h_ty : ∀ k O s n, TyD M.K O (tieD (TA.mk c_Back c_Ahead c_Sofar c_Whole c_Last c_Same) k s n) (.ref (TA.c (TA.mk c_Back c_Ahead c_Sofar c_Whole c_Last c_Same) k))) (h_kt : ∀ k, PySem.W.kitOne M.K (.ref (TA.c (TA.mk c_Back c_Ahead c_Sofar c_Whole c_Last c_Same) k)) (.ref c_Tie) = some true) (h_kn : ∀ d n, D.tyN d = some n → PySem.W.kitOne M.K (.type n) (.ref c_Tie) = some false) (g_Tie : M.mg "Tie" = some (.ref c_Tie)) : FnG M 5 f fd ["self", "other"] (spD M.K (TEqT (TA.mk c_Back c_Ahead c_Sofar c_Whole c_Last c_Same))) := by
  refine fn_body F sc_Tie___eq__ (fun ds O Q E h => ?_) (fun ds O QD ED h H X => ?_)
  · obtain ⟨k, s, n, y, rfl, hs, hn, hy⟩ := h
    rfl
  obtain ⟨k, s, n, y, rfl, hs, hn, hy⟩ := h
  show WSs _ _ _ [("self", some (tieD (TA.mk c_Back c_Ahead c_Sofar c_Whole c_Last c_Same) k s n)), ("other", some (y))] O _
  fold_at st
  fold_at go
  rcases hy with ⟨k', s', n', rfl, hs', hn', hq⟩ | ⟨m, hm, hq⟩
  · refine bf_isi (h_ty k' _ s' n') .ref (h_kt k') ?_
    refine ⟨_, rfl, fun _ => ?_, fun h => by cases h⟩
    refine we_one ?_
    fold_at go
    refine bf_strOwn (h_str k) (h_cl k) (Nat.le_of_ble_eq_true rfl) .ins ⟨s, n, rfl, hs, hn, _, rfl, ?_⟩
    fold_at go
    refine bf_strOwn (h_str k') (h_cl k') (Nat.le_of_ble_eq_true rfl) .ins ⟨s', n', rfl, hs', hn', _, rfl, ?_⟩
    exact ow_eq .str .str rfl hq
  · refine bf_isi (tyD_of hm) .ref (h_kn _ _ hm) ?_
    exact ⟨_, rfl, fun h => (by cases h), fun _ => hq⟩
abbrev n__law_tie : List Str := ["_law_plain_here", "_law_word", "_law_number_so", "_law_label"]
theorem sc__law_tie : Sco n__law_tie ["_law_plain_here", "_law_word", "_law_number_so", "_law_label"] ["_law_plain_here"] ["Back", "Ahead", "Sofar", "Whole", "Last", "Same"] (defScope s__law_tie) := sco_of (by decide +kernel)
theorem _law_tie_ok {M : Md} {f : Addr} {fd : FuncData} (F : Fun M.K "_law_tie" "_law_tie" s__law_tie f fd) {c_Back : Addr} {c_BadName : Addr} {c_BadNumber : Addr} {c_Ahead : Addr} {c_Sofar : Addr} {c_Whole : Addr} {c_Last : Addr} {c_Same : Addr} (B : Bi M.mg) (h_Back___init__ : EntI M 8 c_Back (TNumI c_Back c_BadName c_BadNumber 0)) (h_Ahead___init__ : EntI M 8 c_Ahead (TNumI c_Ahead c_BadName c_BadNumber 1)) (h_Sofar___init__ : EntI M 5 c_Sofar (TTieI M.K c_BadName)) (h_Whole___init__ : EntI M 5 c_Whole (TTieI M.K c_BadName)) (h_Last___init__ : EntI M 5 c_Last (TTieI M.K c_BadName)) (h_Same___init__ : EntI M 5 c_Same (TTieI M.K c_BadName)) (g_Back : M.mg "Back" = some (.ref c_Back)) (g_Ahead : M.mg "Ahead" = some (.ref c_Ahead)) (g_Sofar : M.mg "Sofar" = some (.ref c_Sofar)) (g_Whole : M.mg "Whole" = some (.ref c_Whole)) (g_Last : M.mg "Last" = some (.ref c_Last)) (g_Same : M.mg "Same" = some (.ref c_Same)) (cl_Sofar : Cls M.K c_Sofar) (cl_Whole : Cls M.K c_Whole) (cl_Last : Cls M.K c_Last) (cl_Same : Cls M.K c_Same) (na_Sofar_source : NoAttr M.K c_Sofar "source") (na_Whole_source : NoAttr M.K c_Whole "source") (na_Last_source : NoAttr M.K c_Last "source") (na_Same_source : NoAttr M.K c_Same "source") : FnG M 11 f fd ["_law_plain_here"] (spD M.K (TTie (TA.mk c_Back c_Ahead c_Sofar c_Whole c_Last c_Same))) := by
  refine fn_body F sc__law_tie (fun ds O Q E h => ?_) (fun ds O QD ED h H X => ?_)
  · obtain ⟨k, s, n, rfl, ⟨h0, h1, h2⟩, hs, hq⟩ := h
    rfl
  obtain ⟨k, s, n, rfl, ⟨h0, h1, h2⟩, hs, hq⟩ := h
  show WSs _ _ _ [("_law_plain_here", some (plainD k s n)), ("_law_word", none), ("_law_number_so", none), ("_law_label", none)] O _
  fold_at st
  fold_at go
  refine wg_tup rfl (fun _ => rfl) (fun _ => rfl) ?_
  refine wgs_cons (fun _ => rfl) (wg_name (by fold_at mem) (by fold_at up) ?_)
  refine wgs_cons (fun _ => rfl) (wg_name (by fold_at mem) (by fold_at up) ?_)
  refine wgs_cons (fun _ => rfl) (wg_name (by fold_at mem) (by fold_at up) (wgs_nil ?_))
  cases k with
  | back =>
    fold_at st
    fold_at go
    refine ow_eqS (t := true) (by decide +kernel) ?_
    refine ⟨_, rfl, fun _ => ?_, fun h => (by cases h)⟩
    fold_at st
    refine we_mk2 h_Back___init__ g_Back (Nat.le_of_ble_eq_true rfl) (by fold_at mem) (fun _ => rfl) (fun _ => rfl) ?_
    fold_at go
    exact ⟨s, n, rfl, hs, (by first | exact h0 | exact h2 rfl), h1, hq⟩
  | ahead =>
    fold_at st
    fold_at go
    refine ow_eqS (t := false) (by decide +kernel) ?_
    refine ⟨_, rfl, fun h => (by cases h), fun _ => ?_⟩
    fold_at st
    fold_at st
    fold_at go
    refine ow_eqS (t := true) (by decide +kernel) ?_
    refine ⟨_, rfl, fun _ => ?_, fun h => (by cases h)⟩
    fold_at st
    refine we_mk2 h_Ahead___init__ g_Ahead (Nat.le_of_ble_eq_true rfl) (by fold_at mem) (fun _ => rfl) (fun _ => rfl) ?_
    fold_at go
    exact ⟨s, n, rfl, hs, (by first | exact h0 | exact h2 rfl), h1, hq⟩
  | sofar =>
    fold_at st
    fold_at go
    refine ow_eqS (t := false) (by decide +kernel) ?_
    refine ⟨_, rfl, fun h => (by cases h), fun _ => ?_⟩
    fold_at st
    fold_at st
    fold_at go
    refine ow_eqS (t := false) (by decide +kernel) ?_
    refine ⟨_, rfl, fun h => (by cases h), fun _ => ?_⟩
    fold_at st
    fold_at st
    fold_at go
    refine ow_eqS (t := true) (by decide +kernel) ?_
    refine ⟨_, rfl, fun _ => ?_, fun h => (by cases h)⟩
    fold_at st
    refine we_mk1 h_Sofar___init__ cl_Sofar na_Sofar_source g_Sofar (Nat.le_of_ble_eq_true rfl) (by fold_at mem) (fun _ => rfl) (fun _ => rfl) ?_
    fold_at go
    exact ⟨hs, hq⟩
  | whole =>
    fold_at st
    fold_at go
    refine ow_eqS (t := false) (by decide +kernel) ?_
    refine ⟨_, rfl, fun h => (by cases h), fun _ => ?_⟩
    fold_at st
    fold_at st
    fold_at go
    refine ow_eqS (t := false) (by decide +kernel) ?_
    refine ⟨_, rfl, fun h => (by cases h), fun _ => ?_⟩
    fold_at st
    fold_at st
    fold_at go
    refine ow_eqS (t := false) (by decide +kernel) ?_
    refine ⟨_, rfl, fun h => (by cases h), fun _ => ?_⟩
    fold_at st
    fold_at st
    fold_at go
    refine ow_eqS (t := true) (by decide +kernel) ?_
    refine ⟨_, rfl, fun _ => ?_, fun h => (by cases h)⟩
    fold_at st
    refine we_mk1 h_Whole___init__ cl_Whole na_Whole_source g_Whole (Nat.le_of_ble_eq_true rfl) (by fold_at mem) (fun _ => rfl) (fun _ => rfl) ?_
    fold_at go
    exact ⟨hs, hq⟩
  | last =>
    fold_at st
    fold_at go
    refine ow_eqS (t := false) (by decide +kernel) ?_
    refine ⟨_, rfl, fun h => (by cases h), fun _ => ?_⟩
    fold_at st
    fold_at st
    fold_at go
    refine ow_eqS (t := false) (by decide +kernel) ?_
    refine ⟨_, rfl, fun h => (by cases h), fun _ => ?_⟩
    fold_at st
    fold_at st
    fold_at go
    refine ow_eqS (t := false) (by decide +kernel) ?_
    refine ⟨_, rfl, fun h => (by cases h), fun _ => ?_⟩
    fold_at st
    fold_at st
    fold_at go
    refine ow_eqS (t := false) (by decide +kernel) ?_
    refine ⟨_, rfl, fun h => (by cases h), fun _ => ?_⟩
    fold_at st
    fold_at st
    fold_at go
    refine ow_eqS (t := true) (by decide +kernel) ?_
    refine ⟨_, rfl, fun _ => ?_, fun h => (by cases h)⟩
    refine we_mk1 h_Last___init__ cl_Last na_Last_source g_Last (Nat.le_of_ble_eq_true rfl) (by fold_at mem) (fun _ => rfl) (fun _ => rfl) ?_
    fold_at go
    exact ⟨hs, hq⟩
  | same =>
    fold_at st
    fold_at go
    refine ow_eqS (t := false) (by decide +kernel) ?_
    refine ⟨_, rfl, fun h => (by cases h), fun _ => ?_⟩
    fold_at st
    fold_at st
    fold_at go
    refine ow_eqS (t := false) (by decide +kernel) ?_
    refine ⟨_, rfl, fun h => (by cases h), fun _ => ?_⟩
    fold_at st
    fold_at st
    fold_at go
    refine ow_eqS (t := false) (by decide +kernel) ?_
    refine ⟨_, rfl, fun h => (by cases h), fun _ => ?_⟩
    fold_at st
    fold_at st
    fold_at go
    refine ow_eqS (t := false) (by decide +kernel) ?_
    refine ⟨_, rfl, fun h => (by cases h), fun _ => ?_⟩
    fold_at st
    fold_at st
    fold_at go
    refine ow_eqS (t := false) (by decide +kernel) ?_
    refine ⟨_, rfl, fun h => (by cases h), fun _ => ?_⟩
    refine we_mk1 h_Same___init__ cl_Same na_Same_source g_Same (Nat.le_of_ble_eq_true rfl) (by fold_at mem) (fun _ => rfl) (fun _ => rfl) ?_
    fold_at go
    exact ⟨hs, hq⟩
abbrev n__law_plain : List Str := ["_law_pen_here", "_law_labels", "_law_word", "_law_number_so"]
theorem sc__law_plain : Sco n__law_plain ["_law_pen_here", "_law_labels", "_law_word", "_law_number_so"] ["_law_pen_here", "_law_labels"] ["_law_pick", "max", "int", "_law_draw"] (defScope s__law_plain) := sco_of (by decide +kernel)
theorem _law_plain_ok {M : Md} {f : Addr} {fd : FuncData} (F : Fun M.K "_law_plain" "_law_plain" s__law_plain f fd) (B : Bi M.mg) (h__law_draw : Ent M 1 "_law_draw" (TDraw)) (h__law_pick : Ent M 3 "_law_pick" (TPick)) : FnG M 5 f fd ["_law_pen_here", "_law_labels"] (spD M.K (TPlain)) := by
  refine fn_body F sc__law_plain (fun ds O Q E h => ?_) (fun ds O QD ED h H X => ?_)
  · obtain ⟨p, b, x, xs, O', rfl, hu, hb, hx, hxA, hne, hlen, hq⟩ := h
    rfl
  obtain ⟨p, b, x, xs, O', rfl, hu, hb, hx, hxA, hne, hlen, hq⟩ := h
  show WSs _ _ _ [("_law_pen_here", some (.ref p)), ("_law_labels", some (x)), ("_law_word", none), ("_law_number_so", none)] O _
  obtain ⟨O1, u1, v1⟩ := hu.re (.box (Pen (b + 1)))
  obtain ⟨O2, u2, v2⟩ := v1.re (.box (Pen (b + 2)))
  obtain ⟨O3, u3, v3⟩ := v2.re (.box (Pen (b + 3)))
  fold_at st
  fold_at cs
  refine we_lst ?_
  fold_at cs
  refine ⟨sz (by simp), ?_⟩
  fold_at cs
  refine ⟨p, b, _, _, O1, rfl, .lst, .lst, u1, by omega, by simp, (by simp), fun d hd => ?_⟩
  obtain ⟨k, rfl⟩ : ∃ k, d = .str (kdS k) := by
    simp only [List.mem_cons, List.not_mem_nil, or_false] at hd
    rcases hd with h | h | h | h | h | h | h <;> subst h
    · exact ⟨.back, rfl⟩
    · exact ⟨.back, rfl⟩
    · exact ⟨.ahead, rfl⟩
    · exact ⟨.sofar, rfl⟩
    · exact ⟨.whole, rfl⟩
    · exact ⟨.last, rfl⟩
    · exact ⟨.same, rfl⟩
  refine ⟨_, (by fold_at up), ?_⟩
  fold_at st
  fold_at go
  refine ⟨_, (by fold_at up), ?_⟩
  refine wss_step ?_
  intro P5
  refine ws_cut (fun Γ' O4 => ∃ n b', kOk k n ∧ b' ≤ b + 3 ∧ Γ' = ([("_law_pen_here", some (.ref p)), ("_law_labels", some x), ("_law_word", some (.str (kdS k))), ("_law_number_so", some (if k.num then .int n else .non))] : En) ∧ OUp O4 p (.box (Pen b')) (.box (Pen (b + 4))) O') ?_ ?_
  · refine ws_if ?_
    fold_at go
    refine ⟨sz (by simp), ?_⟩
    refine ow_inT (t := k.num) rfl (.t .tup) rfl (by cases k <;> decide +kernel) ?_
    refine ⟨_, rfl, fun hk => ?_, fun hk => ?_⟩
    · fold_at st
      fold_at cs
      refine ow_eqS (t := decide (k = .ahead)) (by cases k <;> decide +kernel) ?_
      fold_at cs
      refine we_lst ?_
      fold_at cs
      refine ⟨p, b + 1, 61, O2, rfl, u2, by omega, by decide, by decide, fun r r0 r1 => ?_⟩
      fold_at cs
      refine ⟨sz (by simp), ?_⟩
      fold_at cs
      refine ⟨p, b + 2, _, _, O3, rfl, .lst, .lst, u3, by omega, by simp, (by simp), fun d hd => ?_⟩
      obtain ⟨v, rfl, hv0, hv1⟩ : ∃ v, d = .int v ∧ 0 ≤ v ∧ v ≤ 60 := by
        simp only [List.mem_cons, List.not_mem_nil, or_false] at hd
        rcases hd with h | h | h | h | h | h <;> subst h <;> exact ⟨_, rfl, by omega, by omega⟩
      fold_at cs
      refine bf_max2 ?_
      refine ⟨_, (by fold_at up), ?_⟩
      fold_at st
      refine ⟨if v > (if decide (k = .ahead) then 1 else 0) then v else (if decide (k = .ahead) then 1 else 0), b + 3, ?_, by omega, ?_, v3⟩
      · refine ⟨?_, ?_, fun e => ?_⟩
        · split <;> (first | omega | (split <;> omega))
        · split <;> (first | omega | (split <;> omega))
        · subst e; simp only [decide_true, if_true]; split <;> omega
      · rw [hk]
        rfl
    · fold_at st
      refine ⟨1, b + 1, ⟨by omega, by omega, fun _ => by omega⟩, by omega, ?_, v1⟩
      rw [hk]
      rfl
  · rintro Γ' O4 ⟨n, b', hk, hb', rfl, v4⟩
    obtain ⟨O5, u5, v5⟩ := v4.re (.box (Pen (b' + 1)))
    fold_at st
    refine we_weak ?_
    fold_at cs
    refine ⟨p, b', _, xs.map .str, O5, rfl, hxA _, hxA _, u5, by omega, by simpa using hne, by rw [List.length_map]; exact hlen, fun d hd => ?_⟩
    obtain ⟨s, hs, rfl⟩ := List.mem_map.mp hd
    fold_at cs
    exact ⟨sz (by simp), p, _, _, O', v5, pen_weak (by omega), hq k n s hk hs⟩
abbrev n_take_tie : List Str := ["words", "word", "number", "source"]
theorem sc_take_tie : Sco n_take_tie ["words", "word", "number", "source"] ["words"] ["TIE_WORDS", "MOST_OFFSET", "Back", "Ahead", "Sofar", "Whole", "Last", "Same"] (defScope s_take_tie) := sco_of (by decide +kernel)
theorem take_tie_ok {M : Md} {f : Addr} {fd : FuncData} (F : Fun M.K "take_tie" "take_tie" s_take_tie f fd) {c_Words : Addr} {c_BadText : Addr} {c_Back : Addr} {c_BadName : Addr} {c_BadNumber : Addr} {c_Ahead : Addr} {c_Sofar : Addr} {c_Whole : Addr} {c_Last : Addr} {c_Same : Addr} (B : Bi M.mg) (gt_TIE_WORDS : GT M.K M.mg "TIE_WORDS" (.ktup (kdL.map .str))) (i_MOST_OFFSET : GI M.mg "MOST_OFFSET" 60) (h_Words_take_of : EntM M 7 c_Words "take_of" (TTakeOf c_Words c_BadText)) (h_Words_take_number : EntM M 7 c_Words "take_number" (fun ds O Q E => (TTakeN c_Words c_BadText) (ds ++ ([] : List D)) O Q E)) (h_Words_take_name : EntM M 7 c_Words "take_name" (TTakeNm c_Words c_BadText)) (cl_Words : Cls M.K c_Words) (h_Back___init__ : EntI M 8 c_Back (TNumI c_Back c_BadName c_BadNumber 0)) (h_Ahead___init__ : EntI M 8 c_Ahead (TNumI c_Ahead c_BadName c_BadNumber 1)) (h_Sofar___init__ : EntI M 5 c_Sofar (TTieI M.K c_BadName)) (h_Whole___init__ : EntI M 5 c_Whole (TTieI M.K c_BadName)) (h_Last___init__ : EntI M 5 c_Last (TTieI M.K c_BadName)) (h_Same___init__ : EntI M 5 c_Same (TTieI M.K c_BadName)) (g_Back : M.mg "Back" = some (.ref c_Back)) (g_Ahead : M.mg "Ahead" = some (.ref c_Ahead)) (g_Sofar : M.mg "Sofar" = some (.ref c_Sofar)) (g_Whole : M.mg "Whole" = some (.ref c_Whole)) (g_Last : M.mg "Last" = some (.ref c_Last)) (g_Same : M.mg "Same" = some (.ref c_Same)) (cl_Sofar : Cls M.K c_Sofar) (cl_Whole : Cls M.K c_Whole) (cl_Last : Cls M.K c_Last) (cl_Same : Cls M.K c_Same) (na_Sofar_source : NoAttr M.K c_Sofar "source") (na_Whole_source : NoAttr M.K c_Whole "source") (na_Last_source : NoAttr M.K c_Last "source") (na_Same_source : NoAttr M.K c_Same "source") : FnG M 11 f fd ["words"] (spD M.K (TTakeTie (TA.mk c_Back c_Ahead c_Sofar c_Whole c_Last c_Same) c_Words c_BadText)) := by
  refine fn_body F sc_take_tie (fun ds O Q E h => ?_) (fun ds O QD ED h H X => ?_)
  · obtain ⟨a, ws, i, rfl, hat, ok, hq, he⟩ := h
    rfl
  obtain ⟨a, ws, i, rfl, hat, ok, hq, he⟩ := h
  show WSs _ _ _ [("words", some (.ref a)), ("word", none), ("number", none), ("source", none)] O _
  obtain ⟨O1, u1, _⟩ := (OUp.same hat).more (.ins c_Words (wsF ws (i + 1)))
  fold_at au
  refine wn_gt gt_TIE_WORDS (by fold_at mem) ?_
  fold_at au
  refine ⟨_, ws, i, _, kdL, O1, rfl, u1, ok, rfl, fun y hy hk => ?_, fun hno => he i (tieAt_bad hno) O (OUp.same hat)⟩
  obtain ⟨k, rfl⟩ := kdL_ex hk
  have hat1 := u1.new
  have ok1 : WsOk ws (i + 1) := ok.succ (List.getElem?_eq_some_iff.mp hy).1
  obtain ⟨O2, u2, v2⟩ := u1.more (.ins c_Words (wsF ws (i + 2)))
  cases k with
  | back =>
    fold_at au
    refine ⟨_, ws, i + 1, 0, 60, O2, rfl, u2, ok1, fun x n hx hn h0 h1 => ?_, fun hno => he (i + 1) (tieAt_num hy rfl hno) O1 u1⟩
    have hat2 := u2.new
    have ok2 : WsOk ws (i + 2) := ok1.succ (List.getElem?_eq_some_iff.mp hx).1
    have et := tieAt_num2 (k := .back) hy rfl hx hn h0 h1
    obtain ⟨O3, u3, v3⟩ := v2.more (.ins c_Words (wsF ws (i + 3)))
    fold_at au
    refine we_mk2 h_Back___init__ g_Back (Nat.le_of_ble_eq_true rfl) (by fold_at mem) (fun _ => rfl) (fun _ => rfl) ?_
    fold_at au
    refine ⟨_, ws, i + 2, O3, rfl, u3, ok2, fun s hs hn2 => ?_, fun hno => he (i + 2) (by rw [et]; exact nm_bad hno) O2 v2⟩
    fold_at au
    exact ⟨s, n, rfl, hn2, h0, h1, hq .back s n (i + 3) (by rw [et, hs]; dsimp only; rw [if_pos hn2]) O3 v3⟩
  | ahead =>
    fold_at au
    refine ⟨_, ws, i + 1, 1, 60, O2, rfl, u2, ok1, fun x n hx hn h0 h1 => ?_, fun hno => he (i + 1) (tieAt_num hy rfl hno) O1 u1⟩
    have hat2 := u2.new
    have ok2 : WsOk ws (i + 2) := ok1.succ (List.getElem?_eq_some_iff.mp hx).1
    have et := tieAt_num2 (k := .ahead) hy rfl hx hn h0 h1
    obtain ⟨O3, u3, v3⟩ := v2.more (.ins c_Words (wsF ws (i + 3)))
    fold_at au
    refine we_mk2 h_Ahead___init__ g_Ahead (Nat.le_of_ble_eq_true rfl) (by fold_at mem) (fun _ => rfl) (fun _ => rfl) ?_
    fold_at au
    refine ⟨_, ws, i + 2, O3, rfl, u3, ok2, fun s hs hn2 => ?_, fun hno => he (i + 2) (by rw [et]; exact nm_bad hno) O2 v2⟩
    fold_at au
    exact ⟨s, n, rfl, hn2, h0, h1, hq .ahead s n (i + 3) (by rw [et, hs]; dsimp only; rw [if_pos hn2]) O3 v3⟩
  | sofar =>
    fold_at au
    have et := tieAt_pl (k := .sofar) hy rfl
    refine ⟨_, ws, i + 1, O2, rfl, u2, ok1, fun s hs hn2 => ?_, fun hno => he (i + 1) (by rw [et]; exact nm_bad hno) O1 u1⟩
    fold_at au
    refine we_mk1 h_Sofar___init__ cl_Sofar na_Sofar_source g_Sofar (Nat.le_of_ble_eq_true rfl) (by fold_at mem) (fun _ => rfl) (fun _ => rfl) ?_
    fold_at au
    exact ⟨hn2, hq .sofar s 0 (i + 2) (by rw [et, hs]; dsimp only; rw [if_pos hn2]) O2 v2⟩
  | whole =>
    fold_at au
    have et := tieAt_pl (k := .whole) hy rfl
    refine ⟨_, ws, i + 1, O2, rfl, u2, ok1, fun s hs hn2 => ?_, fun hno => he (i + 1) (by rw [et]; exact nm_bad hno) O1 u1⟩
    fold_at au
    refine we_mk1 h_Whole___init__ cl_Whole na_Whole_source g_Whole (Nat.le_of_ble_eq_true rfl) (by fold_at mem) (fun _ => rfl) (fun _ => rfl) ?_
    fold_at au
    exact ⟨hn2, hq .whole s 0 (i + 2) (by rw [et, hs]; dsimp only; rw [if_pos hn2]) O2 v2⟩
  | last =>
    fold_at au
    have et := tieAt_pl (k := .last) hy rfl
    refine ⟨_, ws, i + 1, O2, rfl, u2, ok1, fun s hs hn2 => ?_, fun hno => he (i + 1) (by rw [et]; exact nm_bad hno) O1 u1⟩
    fold_at au
    refine we_mk1 h_Last___init__ cl_Last na_Last_source g_Last (Nat.le_of_ble_eq_true rfl) (by fold_at mem) (fun _ => rfl) (fun _ => rfl) ?_
    fold_at au
    exact ⟨hn2, hq .last s 0 (i + 2) (by rw [et, hs]; dsimp only; rw [if_pos hn2]) O2 v2⟩
  | same =>
    fold_at au
    have et := tieAt_pl (k := .same) hy rfl
    refine ⟨_, ws, i + 1, O2, rfl, u2, ok1, fun s hs hn2 => ?_, fun hno => he (i + 1) (by rw [et]; exact nm_bad hno) O1 u1⟩
    fold_at au
    refine we_mk1 h_Same___init__ cl_Same na_Same_source g_Same (Nat.le_of_ble_eq_true rfl) (by fold_at mem) (fun _ => rfl) (fun _ => rfl) ?_
    fold_at au
    exact ⟨hn2, hq .same s 0 (i + 2) (by rw [et, hs]; dsimp only; rw [if_pos hn2]) O2 v2⟩
abbrev n_Tie_read : List Str := ["cls", "text", "words", "found"]
theorem sc_Tie_read : Sco n_Tie_read ["cls", "text", "words", "found"] ["cls", "text"] ["Words", "take_tie"] (defScope m_Tie_read) := sco_of (by decide +kernel)
theorem Tie_read_ok {M : Md} {f : Addr} {fd : FuncData} (F : Fun M.K "read" "Tie.read" m_Tie_read f fd) {c_Words : Addr} {c_BadText : Addr} {c_Back : Addr} {c_Ahead : Addr} {c_Sofar : Addr} {c_Whole : Addr} {c_Last : Addr} {c_Same : Addr} {c_Tie : Addr} (B : Bi M.mg) (h_Words___init__ : EntI M 3 c_Words (fun ds O Q E => (TWordsI M.K c_Words c_BadText) (ds ++ ([.int 0] : List D)) O Q E)) (g_Words : M.mg "Words" = some (.ref c_Words)) (h_take_tie : Ent M 11 "take_tie" (TTakeTie (TA.mk c_Back c_Ahead c_Sofar c_Whole c_Last c_Same) c_Words c_BadText)) (h_Words_close : EntM M 5 c_Words "close" (TClose c_Words c_BadText)) (cl_Words : Cls M.K c_Words) : FnG M 13 f fd ["cls", "text"] (spD M.K (TReadT M.K (TA.mk c_Back c_Ahead c_Sofar c_Whole c_Last c_Same) c_Tie c_BadText)) := by
  refine fn_bodyX (DL.Fun.toD F) sc_Tie_read (fun ds O Q E h => ?_) (fun ds O QD ED h H X => ?_)
  · obtain ⟨v, rfl, hn, h1, h2⟩ := h
    rfl
  obtain ⟨v, rfl, hn, h1, h2⟩ := h
  show WSs _ _ _ [("cls", some (.ref c_Tie)), ("text", some (v)), ("words", none), ("found", none)] O _
  refine wss_step ?_
  intro P0
  refine ws_set (fun _ => rfl) (by fold_at mem) ?_
  refine we_words h_Words___init__ g_Words (Nat.le_of_ble_eq_true rfl) (by fold_at mem) (fun _ => rfl) (fun _ => rfl) ?_
  fold_at au
  refine ⟨hn, fun z => ⟨O, .refl, h1 z⟩, fun x hx => ?_⟩
  obtain ⟨hl, hj, hk⟩ := h2 x hx
  obtain ⟨ok, ne, wl⟩ := split_ok (x := x) (by omega)
  refine ⟨by omega, fun a ha => ?_⟩
  fold_at au
  refine ⟨a, _, 0, rfl, .here, ok, fun k s n j e O' u => ?_, fun j e O' u => ?_⟩
  · obtain rfl : O' = (a, .ins c_Words (wsF (Txt.split x " ") j)) :: O := by
      cases u with
      | here => rfl
      | there u => exact absurd (List.mem_map.mpr ⟨_, u.at_.1.mem, rfl⟩) ha
    have hjl := (tieAt_le e).1
    have okj : WsOk (Txt.split x " ") j := ⟨hjl, ok.len, ok.sh⟩
    fold_at au
    refine ⟨a, _, j, rfl, .here, okj, fun z => ?_, fun z => ?_⟩
    · fold_at au
      exact ⟨O, .tk .here .refl, hk k s n (by unfold tieRd; rw [e]; dsimp only; rw [if_pos z])⟩
    · exact ⟨O, .tk .here .refl, hj j (by unfold tieRd; rw [e]; dsimp only; rw [if_neg (by omega)])⟩
  · obtain rfl : O' = (a, .ins c_Words (wsF (Txt.split x " ") j)) :: O := by
      cases u with
      | here => rfl
      | there u => exact absurd (List.mem_map.mpr ⟨_, u.at_.1.mem, rfl⟩) ha
    exact ⟨O, .tk .here .refl, hj j (by unfold tieRd; rw [e])⟩
abbrev n__law_heard : List Str := ["_law_ask", "_law_caught", "_law_found", "error"]
theorem sc__law_heard : Sco n__law_heard ["_law_ask", "_law_caught", "_law_found", "error"] ["_law_ask"] ["DayError", "isinstance", "BadText"] (defScope s__law_heard) := sco_of (by decide +kernel)
theorem _law_heard_ok {M : Md} {c_DayError : Addr} {c_BadText : Addr} (B : Bi M.mg) (g_DayError : M.mg "DayError" = some (.ref c_DayError)) (g_BadText : M.mg "BadText" = some (.ref c_BadText)) (r_BadText : ExcK M.K c_BadText) (xm_BadText : PySem.W.exmOne M.K (.ref c_BadText) (.ref c_DayError) = some true) (kx_BadText : PySem.W.kitOne M.K (.ref c_BadText) (.ref c_BadText) = some true) (xf_BadText_line : PySem.W.findIn M.K (.ref c_BadText) "line" = some none) (xf_BadText_word : PySem.W.findIn M.K (.ref c_BadText) "word" = some none) : HearW M 7 s__law_heard n__law_heard ["_law_ask", "_law_caught", "_law_found", "error"] ["DayError", "isinstance", "BadText"] "_law_ask" (fun d r => r = .lst [d]) (fun x r => ∃ j : Nat, x = badT c_BadText j ∧ r = .tup [.str "text", .int 0, .int (j : Int)]) := by
  intro f O H X QD QL EL act hR hX
  show WSs _ _ _ [("_law_ask", some (.ref f)), ("_law_caught", none), ("_law_found", none), ("error", none)] O _
  refine wss_step ?_
  intro P1
  refine ws_asgS (fun _ => rfl) (fun env e => by rcases env; cases e; rfl) (fun _ => rfl) ?_
  fold_at go
  refine ⟨sz (by simp), ?_⟩
  refine wg_tup rfl (fun _ => rfl) (fun _ => rfl) ?_
  refine wgs_cons (fun _ => rfl) (wg_name (by fold_at mem) (by fold_at up) ?_)
  refine wgs_cons (fun _ => rfl) (wg_name (by fold_at mem) (by fold_at up) (wgs_nil ?_))
  refine wss_step ?_
  intro P2
  refine ws_try rfl (by fold_at mem) (by fold_at mem) (by decide) (by show List.lookup _ (defScope s__law_heard).names = _; decide +kernel) (by show List.lookup _ (defScope s__law_heard).names = _; decide +kernel) (by decide) (by decide) (fun _ => rfl) (by fold_at mem) g_DayError (fun pn xe => ?_)
  fold_at st
  refine act pn xe _ _ _ _ _ (by fold_at at_) (fun d O' h => ?_) (fun x O' h => ?_)
  · obtain ⟨r, rfl, hq⟩ := hR d O' h
    refine ⟨_, by fold_at up, ?_⟩
    fold_at st
    fold_at st
    fold_at go
    refine ⟨fun _ => ?_, fun h => by cases h⟩
    fold_at st
    refine we_lst ?_
    fold_at go
    exact ⟨sz (by simp), hq⟩
  · obtain ⟨r, ⟨j, rfl, rfl⟩, hq⟩ := hX x O' h
    refine ⟨true, xm_BadText, fun _ => ⟨by simp [badT], _, _, by fold_at up, by fold_at up, ?_⟩, fun h => by cases h⟩
    fold_at st
    fold_at go
    refine ⟨fun h => (by cases h), fun _ => ?_⟩
    fold_at st
    fold_at st
    fold_at go
    refine bf_isiX r_BadText .ref kx_BadText ?_
    refine ⟨_, .bl, fun _ => ?_, fun h => by cases h⟩
    fold_at st
    fold_at go
    refine we_xfld (fun _ => rfl) ?_
    fold_at go
    refine ⟨_, _, _, rfl, r_BadText, xf_BadText_line, .there rfl .here, ?_⟩
    fold_at go
    refine we_xfld (fun _ => rfl) ?_
    fold_at go
    refine ⟨_, _, _, rfl, r_BadText, xf_BadText_word, .here, ?_⟩
    fold_at go
    exact ⟨sz (by simp), hq⟩
abbrev n__law_wrong : List Str := ["_law_words_so", "_law_row", "_law_at", "_law_label", "_law_number", "_law_sign"]
theorem sc__law_wrong : Sco n__law_wrong ["_law_words_so", "_law_row", "_law_at", "_law_label"] ["_law_words_so"] ["range", "int", "len"] (defScope s__law_wrong) := sco_of (by decide +kernel)
theorem _law_wrong_ok {M : Md} {f : Addr} {fd : FuncData} (F : Fun M.K "_law_wrong" "_law_wrong" s__law_wrong f fd) (B : Bi M.mg) : FnG M 1 f fd ["_law_words_so"] (spD M.K (TWrong)) := by
  refine fn_body F sc__law_wrong (fun ds O Q E h => ?_) (fun ds O QD ED h H X => ?_)
  · obtain ⟨ws, rfl, hne, hlen, hsz, hq⟩ := h
    rfl
  obtain ⟨ws, rfl, hne, hlen, hsz, hq⟩ := h
  show WSs _ _ _ [("_law_words_so", some (.lst (ws.map .str))), ("_law_row", none), ("_law_at", none), ("_law_label", none), ("_law_number", none), ("_law_sign", none)] O _
  have hw1 : 1 ≤ ws.length := by
    cases ws with
    | nil => exact absurd rfl hne
    | cons _ _ => simp
  have rl : ∀ j, (rowAt ws j).length ≤ 1900 := row_len hsz
  fold_at au
  refine ow_cat .lst .lst (by refine Nat.le_trans (m := 4000) ?_ (by decide); simp only [List.length_map, List.length_cons, List.length_nil]; omega) ?_
  rw [show ([D.str "", D.str ""] : List D) = (["", ""] : List Str).map D.str from rfl, ← List.map_append]
  fold_at au
  refine ⟨_, 0, _, .l .lst, rfl, row_at (j := 0) hw1 (by decide), ?_⟩
  fold_at au
  refine ow_notinSs (xs := kdL) (.l .lst) rfl ?_
  refine ⟨_, rfl, fun h => ?_, fun h => ?_⟩
  · have h : ¬ rowAt ws 0 ∈ kdL := by simpa using h
    rw [wrong0 hw1 h] at hq
    fold_at au
    exact hq
  have h : rowAt ws 0 ∈ kdL := by simpa using h
  obtain ⟨k, hk⟩ := kdL_ex h
  fold_at an
  refine ws_cut (fun Γ' O1 => Γ' = ([("_law_words_so", some (.lst (ws.map .str))), ("_law_row", some (.lst ((ws ++ (["", ""] : List Str)).map .str))), ("_law_at", some (.int (tieAtI k : Nat))), ("_law_label", none), ("_law_number", none), ("_law_sign", none)] : En) ∧ O1 = O ∧ (k.num = true → ∃ n, goodN (kLo k) (rowAt ws 1) n)) ?_ ?_
  · refine ws_if ?_
    fold_at au
    refine ⟨_, 0, _, .l .lst, rfl, row_at (j := 0) hw1 (by decide), ?_⟩
    rw [hk]
    fold_at au
    refine ow_inSs (xs := ["back", "ahead"]) (.t .tup) rfl ?_
    rw [show decide (kdS k ∈ (["back", "ahead"] : List Str)) = k.num by cases k <;> decide +kernel]
    refine ⟨_, rfl, fun hkn => ?_, fun hkn => ?_⟩
    · obtain ⟨lo, elo, hlo⟩ : ∃ lo : Nat, kLo k = lo ∧ lo ≤ 1 := by
        unfold kLo
        split
        · exact ⟨1, rfl, by omega⟩
        · exact ⟨0, rfl, by omega⟩
      fold_at au
      refine ⟨_, 1, _, .l .lst, rfl, row_at (j := 1) hw1 (by decide), ?_⟩
      fold_at au
      refine we_lcf ["_law_number"] ["str"] ["_law_number"] strN (by show blkB n__law_wrong (defScope s__law_wrong) _ _ _ _ = true; decide +kernel) (fun _ _ => rfl) ?_
      refine wi_rng2 B.range_ (by fold_at mem) (fun _ => rfl) (fun _ => rfl) ?_
      fold_at au
      refine ⟨_, 0, _, .l .lst, rfl, row_at (j := 0) hw1 (by decide), ?_⟩
      rw [hk]
      fold_at au
      refine ow_eqS (t := decide (k = .ahead)) (by cases k <;> decide +kernel) ?_
      fold_at au
      have ek : (if decide (k = .ahead) = true then (1 : Int) else 0) = (lo : Int) := by rw [← elo]; unfold kLo; cases k <;> rfl
      rw [ek]
      refine ⟨_, _, rfl, ⟨by omega, by omega, by omega, by omega⟩, ?_⟩
      rw [show ((61 : Int) - (lo : Int)).toNat = 61 - lo by omega]
      refine ⟨sz (by rw [rngD_len]; omega), fun _ => trivial, ?_, _, .cons .nil (by fold_at up), fun H1 d hd a acc => ?_⟩
      · rw [rng_strNl]
        refine ow_notinSs (xs := wN lo) (.l .lst) rfl ?_
        refine ⟨_, rfl, fun h => ?_, fun h => ?_⟩
        · have h : ¬ rowAt ws 1 ∈ wN lo := by simpa using h
          rw [wrong1 hk hkn fun n g => h ((wN_iff (by omega)).mpr ⟨n, by rw [← elo]; exact g⟩)] at hq
          fold_at au
          exact hq
        · have h : rowAt ws 1 ∈ wN lo := by simpa using h
          obtain ⟨n, g⟩ := (wN_iff (by omega)).mp h
          fold_at au
          exact ⟨by unfold tieAtI; rw [hkn]; rfl, rfl, fun _ => ⟨n, by rw [elo]; exact g⟩⟩
      · obtain ⟨i, hi2⟩ := List.getElem?_of_mem hd
        obtain ⟨rfl, hi3⟩ := rngD_get' hi2
        have hi3 : i < 61 - lo := hi3
        have hlog : ((lo : Int) + (i : Int)).natAbs.log2 < 1920 := by
          have : ((lo : Int) + (i : Int)).natAbs.log2 ≤ ((lo : Int) + (i : Int)).natAbs := Nat.log2_le_self _
          omega
        intro X
        refine wgx_name (by fold_at mem) (by fold_at mem) (by fold_at up) ?_
        intro X
        refine ⟨fun _ X => ?_, fun h => (by cases h)⟩
        fold_at go
        refine bf_strI hlog ?_
        exact ⟨rfl, rfl⟩
    · fold_at au
      exact ⟨by unfold tieAtI; rw [hkn]; rfl, rfl, fun z => by rw [hkn] at z; cases z⟩
  · rintro Γ' O1 ⟨rfl, rfl, hg⟩
    have t2 : tieAtI k ≤ 2 := by unfold tieAtI; split <;> omega
    have rlk := rl (tieAtI k)
    fold_at au
    refine ⟨_, _, _, .l .lst, rfl, row_at hw1 t2, ?_⟩
    fold_at an
    refine ws_if ?_
    fold_at au
    refine bf_len_str (szB (by omega)) ?_
    fold_at au
    refine ⟨fun h1 => ?_, fun h1 => ?_⟩
    · have h1 : 1 ≤ (rowAt ws (tieAtI k)).length := by have := of_decide_eq_true h1; omega
      fold_at au
      refine ⟨fun h2 => ?_, fun h2 => ?_⟩
      · have h2 : (rowAt ws (tieAtI k)).length ≤ 8 := by simp at h2; omega
        fold_at au
        refine we_lcf ["_law_sign"] [] ["_law_sign"] (outF lettersS) (by show blkB n__law_wrong (defScope s__law_wrong) _ _ _ _ = true; decide +kernel) (fun _ _ => rfl) ?_
        refine wi_str ?_
        fold_at au
        refine ⟨by rw [sgnD_len]; exact szB (n := (rowAt ws (tieAtI k)).length) (by omega), fun _ => trivial, ?_, _, .cons .nil (by fold_at up), fun H1 d hd a acc => ?_⟩
        · fold_at au
          refine ow_ne0 .lst .lst ?_
          rw [nm_out h1 h2]
          refine ⟨_, rfl, fun h3 => ?_, fun h3 => ?_⟩
          · have h3 : nmOk (rowAt ws (tieAtI k)) = false := by simpa using h3
            rw [wrong2 hk hg h3] at hq
            fold_at au
            exact hq
          · have h3 : nmOk (rowAt ws (tieAtI k)) = true := by simpa using h3
            rw [wrong3 hk hg h3] at hq
            fold_at au
            refine ⟨fun h4 => ?_, fun h4 => ?_⟩
            · have h4 : ws.length = tieAtI k + 1 := by simp at h4; omega
              rw [if_pos h4] at hq
              fold_at au
              exact hq
            · have h4 : ¬ ws.length = tieAtI k + 1 := by simp at h4; omega
              rw [if_neg h4] at hq
              fold_at au
              exact hq
        · obtain ⟨i, hi⟩ := List.getElem?_of_mem hd
          obtain ⟨c, hc, rfl, _⟩ := sgnD_get hi
          intro X
          refine wgx_name (by fold_at mem) (by fold_at mem) (by fold_at up) ?_
          intro X
          show WT _ _ _ _ _ _
          fold_at au
          refine ow_notinSgn ?_
          refine ⟨_, rfl, fun h X => ?_, fun h => ⟨rfl, ?_⟩⟩
          · have h : ¬ c ∈ lettersS.cps.toList := by simpa [lettersS] using h
            fold_at au
            simp [outF, h]
          · have h : c ∈ lettersS.cps.toList := by simpa [lettersS] using h
            simp [outF, h]
      · have h2 : 8 < (rowAt ws (tieAtI k)).length := by simp at h2; omega
        have h3 : nmOk (rowAt ws (tieAtI k)) = false := by unfold nmOk; simp; omega
        rw [wrong2 hk hg h3] at hq
        fold_at au
        exact hq
    · have h1 : (rowAt ws (tieAtI k)).length = 0 := by have := of_decide_eq_false h1; omega
      have h3 : nmOk (rowAt ws (tieAtI k)) = false := by unfold nmOk; simp; omega
      rw [wrong2 hk hg h3] at hq
      fold_at au
      exact hq
abbrev n__law_bent : List Str := ["_law_pen_here", "_law_line_so", "_law_words_so", "_law_spot", "_law_choice", "_law_odd"]
theorem sc__law_bent : Sco n__law_bent ["_law_pen_here", "_law_line_so", "_law_words_so", "_law_spot", "_law_choice", "_law_odd"] ["_law_pen_here", "_law_line_so"] ["_law_draw", "len", "_law_pick"] (defScope s__law_bent) := sco_of (by decide +kernel)
theorem _law_bent_ok {M : Md} {f : Addr} {fd : FuncData} (F : Fun M.K "_law_bent" "_law_bent" s__law_bent f fd) (B : Bi M.mg) (h__law_draw : Ent M 1 "_law_draw" (TDraw)) (h__law_pick : Ent M 3 "_law_pick" (TPick)) : FnG M 6 f fd ["_law_pen_here", "_law_line_so"] (spD M.K (TBent)) := by
  refine fn_body F sc__law_bent (fun ds O Q E h => ?_) (fun ds O QD ED h H X => ?_)
  · obtain ⟨p, b, x, O0, rfl, hl, hO, hb, hq⟩ := h
    rfl
  obtain ⟨p, b, x, O0, rfl, hl, hO, hb, hq⟩ := h
  show WSs _ _ _ [("_law_pen_here", some (.ref p)), ("_law_line_so", some (.str x)), ("_law_words_so", none), ("_law_spot", none), ("_law_choice", none), ("_law_odd", none)] O _
  subst hO
  obtain ⟨ok, _, wl⟩ := split_ok (x := x) (by omega)
  refine wss_step ?_
  intro P0
  refine ws_set (fun _ => rfl) (by fold_at mem) ?_
  refine we_split (fun _ => rfl) (fun _ => rfl) rfl (fun _ => rfl) ?_
  fold_at go
  refine ⟨sz2 (by omega), ?_⟩
  fold_at go
  refine ⟨by decide +kernel, ?_⟩
  fold_at au
  rw [List.length_map]
  fold_at au
  refine ⟨p, b, _, _, rfl, .here, by omega, by omega, ?_, fun r r0 r1 => ?_⟩
  · have : ((Txt.split x " ").length + 1 : Int).natAbs.log2 ≤ ((Txt.split x " ").length + 1 : Int).natAbs := Nat.log2_le_self _
    omega
  obtain ⟨k, rfl⟩ : ∃ k : Nat, r = k := ⟨r.toNat, by omega⟩
  fold_at au
  refine ⟨p, b + 1, 6, _, rfl, .here, by omega, by decide, by decide, fun c c0 c1 => ?_⟩
  fold_at au
  refine ow_mulS mul9 ?_
  fold_at au
  refine ⟨fun h => ?_, fun h => ?_⟩
  · skip
    fold_at au
    refine SlD.lst .lst ?_
    rw [cutS_to]
    fold_at au
    refine SlD.lst .lst ?_
    rw [show ((k : Int) + 1) = ((k + 1 : Nat) : Int) from rfl, cutS_from]
    refine ow_cat .lst .lst (by refine Nat.le_trans (m := 4000) ?_ (by decide); simp only [List.length_append, List.length_map, List.length_take, List.length_drop, List.length_cons, List.length_nil]; omega) ?_
    rw [← List.map_append]
    have z := bent_sum (x := x) (a := k) (b := k + 1) (os := []) hl (by simp)
    have z2 := bent_len (x := x) (a := k) (b := k + 1) (os := []) (by simp)
    rw [List.append_nil] at z z2
    exact ⟨_, .l .lst, z, hq _ 2 z2 (by omega)⟩
  · fold_at au
    refine ⟨fun h2 => ?_, fun h2 => ?_⟩
    · skip
      fold_at au
      refine SlD.lst .lst ?_
      rw [show ((k : Int) + 1) = ((k + 1 : Nat) : Int) from rfl, cutS_to]
      fold_at au
      refine SlD.lst .lst ?_
      rw [cutS_from]
      refine ow_cat .lst .lst (by refine Nat.le_trans (m := 4000) ?_ (by decide); simp only [List.length_append, List.length_map, List.length_take, List.length_drop, List.length_cons, List.length_nil]; omega) ?_
      rw [← List.map_append]
      have z := bent_sum (x := x) (a := k + 1) (b := k) (os := []) hl (by simp)
      have z2 := bent_len (x := x) (a := k + 1) (b := k) (os := []) (by simp)
      rw [List.append_nil] at z z2
      exact ⟨_, .l .lst, z, hq _ 2 z2 (by omega)⟩
    · fold_at au
      refine ⟨fun h3 => ?_, fun h3 => ?_⟩
      · skip
        fold_at au
        refine SlD.lst .lst ?_
        rw [cutS_to]
        fold_at au
        refine ⟨p, b + 1 + 1, _, _, _, rfl, .lst, .lst, .here, by omega, by simp, by simp, fun d hd => ?_⟩
        have hd' : d ∈ (oddT).map D.str := hd
        obtain ⟨o, ho, rfl⟩ := List.mem_map.mp hd'
        have hol := oddT_len o ho
        fold_at au
        refine ow_cat .lst .lst (by refine Nat.le_trans (m := 4000) ?_ (by decide); simp only [List.length_append, List.length_map, List.length_take, List.length_drop, List.length_cons, List.length_nil]; omega) ?_
        fold_at au
        refine SlD.lst .lst ?_
        rw [cutS_from]
        refine ow_cat .lst .lst (by refine Nat.le_trans (m := 4000) ?_ (by decide); simp only [List.length_append, List.length_map, List.length_take, List.length_drop, List.length_cons, List.length_nil]; omega) ?_
        have z := bent_sum (x := x) (a := k) (b := k) (os := [o]) hl (by simp; omega)
        have z2 := bent_len (x := x) (a := k) (b := k) (os := [o]) (by simp; omega)
        exact ⟨(Txt.split x " ").take k ++ [o] ++ (Txt.split x " ").drop (k), by rw [List.map_append, List.map_append]; exact .l .lst, z, hq _ 3 z2 (by omega)⟩
      · skip
        fold_at au
        refine SlD.lst .lst ?_
        rw [cutS_to]
        fold_at au
        refine ⟨p, b + 1 + 1, _, _, _, rfl, .lst, .lst, .here, by omega, by simp, by simp, fun d hd => ?_⟩
        have hd' : d ∈ (oddT).map D.str := hd
        obtain ⟨o, ho, rfl⟩ := List.mem_map.mp hd'
        have hol := oddT_len o ho
        fold_at au
        refine ow_cat .lst .lst (by refine Nat.le_trans (m := 4000) ?_ (by decide); simp only [List.length_append, List.length_map, List.length_take, List.length_drop, List.length_cons, List.length_nil]; omega) ?_
        fold_at au
        refine SlD.lst .lst ?_
        rw [show ((k : Int) + 1) = ((k + 1 : Nat) : Int) from rfl, cutS_from]
        refine ow_cat .lst .lst (by refine Nat.le_trans (m := 4000) ?_ (by decide); simp only [List.length_append, List.length_map, List.length_take, List.length_drop, List.length_cons, List.length_nil]; omega) ?_
        have z := bent_sum (x := x) (a := k) (b := k + 1) (os := [o]) hl (by simp; omega)
        have z2 := bent_len (x := x) (a := k) (b := k + 1) (os := [o]) (by simp; omega)
        exact ⟨(Txt.split x " ").take k ++ [o] ++ (Txt.split x " ").drop (k + 1), by rw [List.map_append, List.map_append]; exact .l .lst, z, hq _ 3 z2 (by omega)⟩
abbrev n_law : List Str := ["_law_script", "_law_pen_here", "_law_turn", "_law_plain_here", "_law_made", "_law_line_so", "_law_step", "_law_wrong_here", "_law_heard_here", "_law_odd", "_law_part"]
theorem sc_law : Sco n_law ["_law_script", "_law_pen_here", "_law_turn", "_law_plain_here", "_law_made", "_law_line_so", "_law_step", "_law_wrong_here", "_law_heard_here", "_law_odd"] ["_law_script"] ["_law_pen", "range", "_law_plain", "_law_tie", "str", "Tie", "_law_bent", "_law_wrong", "_law_heard", "isinstance", "list", "_law_pick", "Last"] (defScope s_law) := sco_of (by decide +kernel)
theorem law_ok {M : Md} {f : Addr} {fd : FuncData} (F : Fun M.K "law" "law" s_law f fd) {c_ P_law : Addr} (LA : LamAt M f c_ P_law) {c_Back : Addr} {c_Ahead : Addr} {c_Sofar : Addr} {c_Whole : Addr} {c_Last : Addr} {c_Same : Addr} {c_BadText : Addr} {c_Tie : Addr} {c_BadName : Addr} (B : Bi M.mg) (h__law_pen : Ent M 1 "_law_pen" (TPen)) (h__law_draw : Ent M 1 "_law_draw" (TDraw)) (h__law_pick : Ent M 3 "_law_pick" (TPick)) (h__law_plain : Ent M 5 "_law_plain" (TPlain)) (h__law_tie : Ent M 11 "_law_tie" (TTie (TA.mk c_Back c_Ahead c_Sofar c_Whole c_Last c_Same))) (h__law_wrong : Ent M 1 "_law_wrong" (TWrong)) (h__law_heard : EntH M 7 "_law_heard" (fun d r => r = .lst [d]) (fun x r => ∃ j : Nat, x = badT c_BadText j ∧ r = .tup [.str "text", .int 0, .int (j : Int)])) (h__law_bent : Ent M 6 "_law_bent" (TBent)) (h_Tie_read : EntC M 13 c_Tie "read" (TReadT M.K (TA.mk c_Back c_Ahead c_Sofar c_Whole c_Last c_Same) c_Tie c_BadText)) (hk_Tie_read : EntCK M 13 c_Tie "read" ["text"] (TReadT M.K (TA.mk c_Back c_Ahead c_Sofar c_Whole c_Last c_Same) c_Tie c_BadText)) (h_str : ∀ k, EntM M 1 (TA.c (TA.mk c_Back c_Ahead c_Sofar c_Whole c_Last c_Same) k) "__str__" (TStrT (TA.mk c_Back c_Ahead c_Sofar c_Whole c_Last c_Same) k)) (h_cl : ∀ k, Cls M.K (TA.c (TA.mk c_Back c_Ahead c_Sofar c_Whole c_Last c_Same) k)) (h_ty : ∀ k O s n, TyD M.K O (tieD (TA.mk c_Back c_Ahead c_Sofar c_Whole c_Last c_Same) k s n) (.ref (TA.c (TA.mk c_Back c_Ahead c_Sofar c_Whole c_Last c_Same) k))) (h_eq : ∀ k, EntM M 5 (TA.c (TA.mk c_Back c_Ahead c_Sofar c_Whole c_Last c_Same) k) "__eq__" (TEqT (TA.mk c_Back c_Ahead c_Sofar c_Whole c_Last c_Same))) (h_ek : ∀ k, EqK M.K (TA.c (TA.mk c_Back c_Ahead c_Sofar c_Whole c_Last c_Same) k)) (h_nf : ∀ k k2, PySem.W.notFirst M.K (TA.c (TA.mk c_Back c_Ahead c_Sofar c_Whole c_Last c_Same) k) (.ref (TA.c (TA.mk c_Back c_Ahead c_Sofar c_Whole c_Last c_Same) k2)) = true) (g_Tie : M.mg "Tie" = some (.ref c_Tie)) (g_Last : M.mg "Last" = some (.ref c_Last)) (h_Last___init__ : EntI M 5 c_Last (TTieI M.K c_BadName)) (cl_Last : Cls M.K c_Last) (na_Last_source : NoAttr M.K c_Last "source") (h_ks : ∀ k, PySem.W.kitOne M.K (.ref (TA.c (TA.mk c_Back c_Ahead c_Sofar c_Whole c_Last c_Same) k)) (.type "str") = some false) : FnG M 17 f fd ["_law_script"] (spD M.K (TLawT [(P_law, ("law" ++ ".<locals>." ++ "<lambda>" : Str))] 63)) := by
  refine fn_bodyL F sc_law LA (fun ds O Q E h => ?_) (fun ds O QD ED h H X => ?_)
  · obtain ⟨cs, rfl, rfl, hl, hq⟩ := h
    rfl
  obtain ⟨cs, rfl, rfl, hl, hq⟩ := h
  show WSs _ _ _ [("_law_script", some (.klst (cs.map .int))), ("_law_pen_here", none), ("_law_turn", none), ("_law_plain_here", none), ("_law_made", none), ("_law_line_so", none), ("_law_step", none), ("_law_wrong_here", none), ("_law_heard_here", none), ("_law_odd", none), ("_law_part", none)] _ _
  fold_at st
  fold_at go
  refine ⟨cs, rfl, hl, fun p hp => ?_⟩
  refine ⟨_, (by fold_at up), ?_⟩
  fold_at au
  refine ws_cut (fun Γ' O1 => (∃ a1 a2 a3 a4 a5 a6 a7 a8 a9, Γ' = ([("_law_script", some (.klst (cs.map .int))), ("_law_pen_here", some (.ref p)), ("_law_turn", a1), ("_law_plain_here", a2), ("_law_made", a3), ("_law_line_so", a4), ("_law_step", a5), ("_law_wrong_here", a6), ("_law_heard_here", a7), ("_law_odd", a8), ("_law_part", a9)] : En)) ∧ ∃ b, b ≤ 12000 ∧ O1 = (p, .box (Pen b)) :: [(P_law, .tab ("law" ++ ".<locals>." ++ "<lambda>"))]) ?_ ?_
  · refine ws_for (fun _ _ => rfl) ?_
    refine wi_rng1 B.range_ (by fold_at mem) (fun _ => rfl) ?_
    fold_at go
    refine ⟨by omega, by omega, fun i Γ' O1 => (∃ a1 a2 a3 a4 a5 a6 a7 a8 a9, Γ' = ([("_law_script", some (.klst (cs.map .int))), ("_law_pen_here", some (.ref p)), ("_law_turn", a1), ("_law_plain_here", a2), ("_law_made", a3), ("_law_line_so", a4), ("_law_step", a5), ("_law_wrong_here", a6), ("_law_heard_here", a7), ("_law_odd", a8), ("_law_part", a9)] : En)) ∧ O1 = (p, .box (Pen (i * 100))) :: [(P_law, .tab ("law" ++ ".<locals>." ++ "<lambda>"))], ⟨⟨_, _, _, _, _, _, _, _, _, rfl⟩, rfl⟩, fun _ _ _ _ => trivial, ?_, fun Γ' O1 ⟨h, e⟩ => ⟨h, 12 * 100, by omega, e⟩⟩
    rintro H1 i d Γ' O1 hi ⟨⟨a1, a2, a3, a4, a5, a6, a7, a8, a9, rfl⟩, rfl⟩
    obtain ⟨rfl, hlt⟩ := rngD_get' hi
    refine wg_name (by fold_at mem) (by fold_at up) ?_
    fold_at au
    refine ⟨p, i * 100, _, labT, _, rfl, .here, by omega, .lst, fun _ => .lst, by decide, by decide, fun k n s hk hs => ?_⟩
    have nm : nmOk s = true := labT_nm s hs
    have sl := nm_len nm
    have nb : n.natAbs < 10 ^ 100 := Nat.lt_of_le_of_lt (show n.natAbs ≤ 60 by have := hk.1; have := hk.2.1; omega) (by decide +kernel)
    fold_at au
    refine ⟨k, s, n, rfl, hk, nm, ?_⟩
    fold_at au
    refine we_lcf ["_law_part"] ["str"] ["_law_part"] partF (by show blkB n_law (defScope s_law) _ _ _ _ = true; decide +kernel) (fun _ _ => rfl) ?_
    refine wi_tup ?_
    fold_at au
    refine ⟨_, .inl rfl, sz (by simp), fun _ => trivial, ?_, _, .cons .nil (by fold_at up), fun H1 d hd a acc => ?_⟩
    · rw [part_line]
      refine ⟨lineP k s n, .l .lst, line_sz nm hk, ?_⟩
      rw [tieS_join]
      fold_at an
      refine ws_if ?_
      fold_at au
      refine bf_strOwn (h_str k) (h_cl k) (Nat.le_of_ble_eq_true rfl) .ins ⟨s, n, rfl, by omega, nb, _, rfl, ?_⟩
      fold_at au
      refine ⟨.str (tieS k s n), rfl, strQ_of (n := "str") rfl, fun z => (by cases z), fun x hx => ?_⟩
      cases hx
      obtain ⟨m, hrd, hm⟩ := tieRd_line (k := k) (n := n) nm hk
      have htl := tieS_len nm hk
      refine ⟨by omega, fun j hj => (by rw [hrd] at hj; cases hj), fun k' s' n' hr => ?_⟩
      rw [hrd] at hr
      cases hr
      rw [tieD_eq hm]
      fold_at au
      refine ow_neOwn (h_eq k) (h_cl k) (h_ek k) (Nat.le_of_ble_eq_true rfl) .ins (h_ty k _ s n) (h_nf k k) ⟨k, s, n, _, rfl, by omega, nb, .inl ⟨k, s, n, rfl, by omega, nb, _, rfl, ?_⟩⟩
      rw [decide_eq_true rfl]
      fold_at an
      refine ws_cut (fun Γ' O1 => (∃ z5 z6 z7 z8, Γ' = ([("_law_script", some (.klst (cs.map .int))), ("_law_pen_here", some (.ref p)), ("_law_turn", some (.int (0 + (i : Int)))), ("_law_plain_here", some (plainD k s n)), ("_law_made", some (tieD (TA.mk c_Back c_Ahead c_Sofar c_Whole c_Last c_Same) k s n)), ("_law_line_so", z5), ("_law_step", z6), ("_law_wrong_here", z7), ("_law_heard_here", z8), ("_law_odd", a8), ("_law_part", a9)] : En)) ∧ ∃ b, b ≤ i * 100 + 32 ∧ O1 = (p, .box (Pen b)) :: [(P_law, .tab ("law" ++ ".<locals>." ++ "<lambda>"))]) ?_ ?_
      · refine ws_for (fun _ _ => rfl) ?_
        refine wi_rng1 B.range_ (by fold_at mem) (fun _ => rfl) ?_
        fold_at go
        refine ⟨by omega, by omega, fun k2 Γ' O1 => (∃ x z6 z7 z8, Γ' = ([("_law_script", some (.klst (cs.map .int))), ("_law_pen_here", some (.ref p)), ("_law_turn", some (.int (0 + (i : Int)))), ("_law_plain_here", some (plainD k s n)), ("_law_made", some (tieD (TA.mk c_Back c_Ahead c_Sofar c_Whole c_Last c_Same) k s n)), ("_law_line_so", some (.str x)), ("_law_step", z6), ("_law_wrong_here", z7), ("_law_heard_here", z8), ("_law_odd", a8), ("_law_part", a9)] : En) ∧ x.length + 64 ≤ 100 * 2 ^ k2) ∧ ∃ b, b ≤ i * 100 + 10 + 3 * k2 ∧ O1 = (p, .box (Pen b)) :: [(P_law, .tab ("law" ++ ".<locals>." ++ "<lambda>"))], ⟨⟨tieS k s n, _, _, _, rfl, by show (tieS k s n).length + 64 ≤ 100 * 1; omega⟩, _, by omega, rfl⟩, fun _ _ _ _ => trivial, ?_, fun Γ' O1 ⟨⟨x, z6, z7, z8, e1, _⟩, b, hb, e⟩ => ⟨⟨_, _, _, _, e1⟩, b, by have hb2 : b ≤ i * 100 + 10 + 3 * 4 := hb; omega, e⟩⟩
        rintro H2 j d Γ' O1 hj ⟨⟨x, z6, z7, z8, rfl, hx⟩, b, hb, rfl⟩
        obtain ⟨rfl, hjt⟩ := rngD_get' hj
        have hjt : j < 4 := hjt
        refine wg_name (by fold_at mem) (by fold_at up) ?_
        have h2j : 2 ^ j ≤ 2 ^ 3 := Nat.pow_le_pow_right (by decide) (by omega)
        have h2s : 2 ^ (j + 1) = 2 * 2 ^ j := by rw [Nat.pow_succ]; omega
        fold_at st
        fold_at go
        refine ⟨p, b, x, _, rfl, by omega, rfl, by omega, fun y c3 hy hc3 => ?_⟩
        refine ⟨_, (by fold_at up), ?_⟩
        refine wss_step ?_
        intro P7
        have hy2 : y.length ≤ 1536 := by omega
        obtain ⟨ok, ne, wl⟩ := split_ok (x := y) (by omega)
        refine ws_cut (fun Γ' O1 => (∃ hd, Γ' = ([("_law_script", some (.klst (cs.map .int))), ("_law_pen_here", some (.ref p)), ("_law_turn", some (.int (0 + (i : Int)))), ("_law_plain_here", some (plainD k s n)), ("_law_made", some (tieD (TA.mk c_Back c_Ahead c_Sofar c_Whole c_Last c_Same) k s n)), ("_law_line_so", some (.str y)), ("_law_step", some (.int (0 + (j : Int)))), ("_law_wrong_here", some (wrongD (Txt.split y " "))), ("_law_heard_here", some hd), ("_law_odd", a8), ("_law_part", a9)] : En) ∧ ((∃ k2 s2 n2, tieRd (Txt.split y " ") = .ok (k2, s2, n2) ∧ hd = .lst [tieD (TA.mk c_Back c_Ahead c_Sofar c_Whole c_Last c_Same) k2 s2 n2]) ∨ ∃ j : Nat, tieRd (Txt.split y " ") = .error j ∧ hd = .tup [.str "text", .int 0, .int (j : Int)])) ∧ O1 = (p, .box (Pen (b + c3))) :: [(P_law, .tab ("law" ++ ".<locals>." ++ "<lambda>"))]) ?_ ?_
        · refine ws_par (by decide) (by fold_at mem) (by fold_at mem) (by show List.lookup _ (defScope s_law).names = _; decide +kernel) (by show List.lookup _ (defScope s_law).names = _; decide +kernel) (fun env e => by rcases env; cases e; rfl) (fun _ => rfl) ?_
          fold_at an
          refine we_split (fun _ => rfl) (fun _ => rfl) rfl (fun _ => rfl) ?_
          fold_at go
          refine ⟨sz2 (by omega), ?_⟩
          fold_at go
          refine ⟨by decide +kernel, ?_⟩
          fold_at go
          refine ⟨_, rfl, ne, by omega, fun w hw => (by have := split_each hw; omega), ?_⟩
          fold_at an
          refine we_heard h__law_heard (Nat.le_of_ble_eq_true rfl) (Nat.le_of_ble_eq_true rfl) (by fold_at mem) rfl (.there .here) ["_law_line_so"] ["Tie"] (by show lamB (defScope s_law) _ _ _ = true; decide +kernel) (fun _ => rfl) (fun _ _ _ _ _ => rfl) (fun H' X' => ?_)
          refine we_cmK hk_Tie_read (Nat.le_of_ble_eq_true rfl) (fun _ => rfl) (fun _ => rfl) (fun _ => rfl) (fun _ => rfl) ?_
          fold_at an
          refine ⟨.str y, rfl, strQ_of (n := "str") rfl, fun z => (by cases z), fun x hx => ?_⟩
          cases hx
          refine ⟨by omega, fun k2 hk2 => ?_, fun k2 s2 n2 h2 => ?_⟩
          · refine ⟨_, ⟨k2, rfl, rfl⟩, ?_⟩
            fold_at an
            exact ⟨⟨_, rfl, .inr ⟨k2, hk2, rfl⟩⟩, rfl⟩
          · refine ⟨_, rfl, ?_⟩
            fold_at an
            exact ⟨⟨_, rfl, .inl ⟨k2, s2, n2, h2, rfl⟩⟩, rfl⟩
        · rintro Γ' O1 ⟨⟨hd, rfl, hh⟩, rfl⟩
          rcases hh with ⟨k2, s2, n2, e1, rfl⟩ | ⟨j2, e1, rfl⟩
          · rw [wrong_ok e1]
            have kl : PySem.W.kitOne M.K (.type "list") (.type "list") = some true := rfl
            obtain ⟨e2, hk2, nm2⟩ := tieRd_ok e1
            have sl2 := nm_len nm2
            have nb2 : n2.natAbs < 10 ^ 100 := Nat.lt_of_le_of_lt (show n2.natAbs ≤ 60 by have := hk2.1; have := hk2.2.1; omega) (by decide +kernel)
            fold_at au
            refine bf_strOwn (h_str k2) (h_cl k2) (Nat.le_of_ble_eq_true rfl) .ins ⟨s2, n2, rfl, by omega, nb2, _, rfl, ?_⟩
            rw [e2]
            fold_at au
            exact ⟨⟨y, _, _, _, rfl, by rw [h2s]; omega⟩, _, by omega, rfl⟩
          · rw [wrong_err e1]
            fold_at au
            refine ow_neDT (t := true) (shp_tii (strOk_ofString _)) (shp_tii (strOk_ofString _)) (D.eq_refl _) ?_
            fold_at au
            exact ⟨⟨y, _, _, _, rfl, by rw [h2s]; omega⟩, _, by omega, rfl⟩
      · rintro Γ' O1 ⟨⟨z5, z6, z7, z8, rfl⟩, b, hb, rfl⟩
        refine wss_weak .here (pen_weak (b' := (i + 1) * 100) (by omega)) ?_
        fold_at st
        exact ⟨⟨_, _, _, _, _, _, _, _, _, rfl⟩, rfl⟩
    · have hd := part_mem hd
      intro X
      refine wgx_name (by fold_at mem) (by fold_at mem) (by fold_at up) ?_
      intro X
      show WT _ _ _ _ _ _
      rcases hd with ⟨x, rfl⟩ | rfl | rfl
      · fold_at au
        intro X
        fold_at au
        first | rfl | exact ⟨rfl, rfl⟩
      · fold_at au
        intro X
        fold_at au
        refine bf_strI (log_of (Nat.lt_of_le_of_lt (show n.natAbs ≤ 60 by have := hk.1; have := hk.2.1; omega) (by decide +kernel))) ?_
        first | rfl | exact ⟨rfl, rfl⟩
      · fold_at au
        first | rfl | exact ⟨rfl, rfl⟩
  · rintro Γ' O1 ⟨⟨a1, a2, a3, a4, a5, a6, a7, a8, a9, rfl⟩, b, hb, rfl⟩
    fold_at au
    refine we_mk1 h_Last___init__ cl_Last na_Last_source g_Last (Nat.le_of_ble_eq_true rfl) (by fold_at mem) (fun _ => rfl) (fun _ => rfl) ?_
    fold_at au
    refine ⟨p, b, _, _, _, rfl, .lst, .lst, .here, by omega, by simp, by simp, fun d hd => ?_⟩
    have hv : (∀ O, StrQ M.K O d) ∧ (d.isS = false ∨ d = .str "") := by
      simp only [List.mem_cons, List.not_mem_nil, or_false] at hd
      rcases hd with h | h | h | h | h | h | h | h <;> subst h
      · exact ⟨fun O => strQ_of (n := "NoneType") rfl, .inl rfl⟩
      · exact ⟨fun O => strQ_of (n := "int") rfl, .inl rfl⟩
      · exact ⟨fun O => strQ_of (n := "bool") rfl, .inl rfl⟩
      · exact ⟨fun O => strQ_of (n := "list") rfl, .inl rfl⟩
      · exact ⟨fun O => strQ_of (n := "tuple") rfl, .inl rfl⟩
      · exact ⟨fun O => strQ_of (n := "dict") rfl, .inl rfl⟩
      · exact ⟨fun O => ⟨_, h_ty .last O "a" 0, h_ks .last⟩, .inl rfl⟩
      · exact ⟨fun O => strQ_of (n := "str") rfl, .inr rfl⟩
    obtain ⟨sq, hd2⟩ := hv
    clear hd
    fold_at an
    refine we_heard h__law_heard (Nat.le_of_ble_eq_true rfl) (Nat.le_of_ble_eq_true rfl) (by fold_at mem) rfl (.there .here) ["_law_odd"] ["Tie"] (by show lamB (defScope s_law) _ _ _ = true; decide +kernel) (fun _ => rfl) (fun _ _ _ _ _ => rfl) (fun H' X' => ?_)
    fold_at an
    refine ⟨d, rfl, sq _, fun z => ?_, fun x hx => ?_⟩
    · refine ⟨_, ⟨0, rfl, rfl⟩, ?_⟩
      fold_at au
      exact hq _
    · obtain rfl : d = .str "" := by
        rcases hd2 with z | z
        · subst hx; cases z
        · exact z
      cases hx
      refine ⟨by decide +kernel, fun k hk => ?_, fun k s n hm => (by rw [tieRd_empty] at hm; cases hm)⟩
      rw [tieRd_empty] at hk
      cases hk
      refine ⟨_, ⟨0, rfl, rfl⟩, ?_⟩
      fold_at au
      exact hq _
/-! ### what the top has written, and the law -/
theorem all_mk {P : Program} {w : World} {K : PySem.W.Frag} {h : Heap} {mg : Str → Option Value} {fa : Addr} {ts : List Addr} (X : K.In h) (G : h.Ns mainGlobals mg) (hfa : mg "law" = some (.ref fa))
    {f__law_pen : Addr}
    {f__law_draw : Addr}
    {f__law_pick : Addr}
    {f_is_integer : Addr}
    {f_is_within : Addr}
    {f_is_name : Addr}
    {c_BadName : Addr}
    {f_BadName___init__ : Addr}
    {cl_BadName : Addr}
    {f_need_name : Addr}
    {f_number_in : Addr}
    {c_Words : Addr}
    {c_BadText : Addr}
    {f_BadText___init__ : Addr}
    {cl_BadText : Addr}
    {f_Words___init__ : Addr}
    {f_Words_refuse : Addr}
    {f_Words_is_over : Addr}
    {f_Words_upcoming : Addr}
    {f_Words_skip : Addr}
    {f_Words_take_of : Addr}
    {f_Words_take_name : Addr}
    {f_Words_take_number : Addr}
    {f_Words_close : Addr}
    {c_Tie : Addr}
    {c_Numbered : Addr}
    {c_Back : Addr}
    {c_Ahead : Addr}
    {c_Sofar : Addr}
    {c_Whole : Addr}
    {c_Last : Addr}
    {c_Same : Addr}
    {f_Tie___init__ : Addr}
    {f_Numbered___init__ : Addr}
    {c_BadNumber : Addr}
    {f_BadNumber___init__ : Addr}
    {cl_BadNumber : Addr}
    {f_Back___init__ : Addr}
    {f_Ahead___init__ : Addr}
    {f_Back___str__ : Addr}
    {f_Ahead___str__ : Addr}
    {f_Sofar___str__ : Addr}
    {f_Whole___str__ : Addr}
    {f_Last___str__ : Addr}
    {f_Same___str__ : Addr}
    {f_Tie___eq__ : Addr}
    {f__law_tie : Addr}
    {f__law_plain : Addr}
    {f_take_tie : Addr}
    {p_Tie_read : Addr}
    {rs_Tie_read : List Value}
    {f_Tie_read : Addr}
    {c_DayError : Addr}
    {f__law_heard : Addr}
    {f__law_wrong : Addr}
    {f__law_bent : Addr}
    {f_law : Addr}
    {P_law : Addr}
    (b_int : PySem.W.nsIn K mainGlobals "int" = some none)
    (b_len : PySem.W.nsIn K mainGlobals "len" = some none)
    (b_abs : PySem.W.nsIn K mainGlobals "abs" = some none)
    (b_list : PySem.W.nsIn K mainGlobals "list" = some none)
    (b_tuple : PySem.W.nsIn K mainGlobals "tuple" = some none)
    (b_range : PySem.W.nsIn K mainGlobals "range" = some none)
    (b_isinstance : PySem.W.nsIn K mainGlobals "isinstance" = some none)
    (b_sum : PySem.W.nsIn K mainGlobals "sum" = some none)
    (b_enumerate : PySem.W.nsIn K mainGlobals "enumerate" = some none)
    (b_repr : PySem.W.nsIn K mainGlobals "repr" = some none)
    (b_str : PySem.W.nsIn K mainGlobals "str" = some none)
    (b_sorted : PySem.W.nsIn K mainGlobals "sorted" = some none)
    (b_dict : PySem.W.nsIn K mainGlobals "dict" = some none)
    (b_max : PySem.W.nsIn K mainGlobals "max" = some none)
    (b_min : PySem.W.nsIn K mainGlobals "min" = some none)
    (b_all : PySem.W.nsIn K mainGlobals "all" = some none)
    (b_any : PySem.W.nsIn K mainGlobals "any" = some none)
    (b_bool : PySem.W.nsIn K mainGlobals "bool" = some none)
    (b_iter : PySem.W.nsIn K mainGlobals "iter" = some none)
    (b_super : PySem.W.nsIn K mainGlobals "super" = some none)
    (b_set : PySem.W.nsIn K mainGlobals "set" = some none)
    (b_zip : PySem.W.nsIn K mainGlobals "zip" = some none)
    (b_object : PySem.W.nsIn K mainGlobals "object" = some none)
    (a__law_pen : PySem.W.nsIn K mainGlobals "_law_pen" = some (some (.ref f__law_pen)))
    (q__law_pen : ∃ fd, Fun K "_law_pen" "_law_pen" s__law_pen f__law_pen fd)
    (a__law_draw : PySem.W.nsIn K mainGlobals "_law_draw" = some (some (.ref f__law_draw)))
    (q__law_draw : ∃ fd, Fun K "_law_draw" "_law_draw" s__law_draw f__law_draw fd)
    (a__law_pick : PySem.W.nsIn K mainGlobals "_law_pick" = some (some (.ref f__law_pick)))
    (q__law_pick : ∃ fd, Fun K "_law_pick" "_law_pick" s__law_pick f__law_pick fd)
    (a_is_integer : PySem.W.nsIn K mainGlobals "is_integer" = some (some (.ref f_is_integer)))
    (q_is_integer : ∃ fd, Fun K "is_integer" "is_integer" s_is_integer f_is_integer fd)
    (a_is_within : PySem.W.nsIn K mainGlobals "is_within" = some (some (.ref f_is_within)))
    (q_is_within : ∃ fd, Fun K "is_within" "is_within" s_is_within f_is_within fd)
    (v_LETTERS : strB K "LETTERS" lettersS = true)
    (v_MOST_LETTERS : intB K "MOST_LETTERS" 8 = true)
    (a_is_name : PySem.W.nsIn K mainGlobals "is_name" = some (some (.ref f_is_name)))
    (q_is_name : ∃ fd, Fun K "is_name" "is_name" s_is_name f_is_name fd)
    (n_BadName : PySem.W.nsIn K mainGlobals "BadName" = some (some (.ref c_BadName)))
    (xo_BadName : oexB K c_BadName = true)
    (xs_BadName : PySem.W.findIn K (.ref c_BadName) "__setattr__" = some (some (.builtin "object.__setattr__")))
    (xb_BadName : PySem.W.subIn K (.ref c_BadName) (.type "BaseException") = some true)
    (xt_BadName : PySem.W.typeIn K (.ref c_BadName) = some (.type "type"))
    (xk_BadName : PySem.W.keepIn K (.ref c_BadName) = true)
    (xi_BadName : PySem.W.findIn K (.ref c_BadName) "__init__" = some (some (.ref f_BadName___init__)))
    (xf_BadName : PySem.W.typeIn K (.ref f_BadName___init__) = some (.type "function"))
    (xq_BadName : ∃ fd, XiE P K "BadName.__init__" m_BadName___init__ f_BadName___init__ cl_BadName fd)
    (xy_BadName : cellB K cl_BadName c_BadName = true)
    (xu_BadName : PySem.W.ks_superIn K c_BadName c_BadName "__init__" = some (some (.builtin "ValueError.__init__")))
    (xw_BadName : PySem.W.subIn K (.ref c_BadName) (.type "ValueError") = some true)
    (xm_BadName : PySem.W.mroIn K c_BadName (.ref c_BadName) = some true)
    (x_opq : PySem.W.nsIn K cStatics "thirdparty.any" = some none)
    (x_top : (P.main.scope.names.lookup ("super" : Str)).isSome = false)
    (xn_BadName_value : PySem.W.findIn K (.ref c_BadName) "value" = some none)
    (xcl_BadName : (PySem.W.clsIn K c_BadName).isSome = true)
    (hdi_BadName : PySem.W.hasDictIn K c_BadName = true)
    (xga_BadName : PySem.W.findIn K (.ref c_BadName) "__getattribute__" = some (some (.builtin "BaseException.__getattribute__")))
    (xgg_BadName : PySem.W.findIn K (.ref c_BadName) "__getattr__" = some none)
    (xha_BadName : PySem.W.findIn K (.ref c_BadName) "__class__" = some (some (.builtin "object.__class__")))
    (cl_get : PySem.W.specialIn K (.builtin "object.__class__") "__get__" = some (some (.builtin "getset_descriptor.__get__")))
    (cl_tak : PySem.W.takesIn K (.builtin "object.__class__") = some true)
    (xmo_BadName : PySem.W.mroIn K c_BadName (.type "object") = some true)
    (a_need_name : PySem.W.nsIn K mainGlobals "need_name" = some (some (.ref f_need_name)))
    (q_need_name : ∃ fd, Fun K "need_name" "need_name" s_need_name f_need_name fd)
    (v_FIGURES : strB K "FIGURES" figuresS = true)
    (v_MOST_FIGURES : intB K "MOST_FIGURES" 60 = true)
    (a_number_in : PySem.W.nsIn K mainGlobals "number_in" = some (some (.ref f_number_in)))
    (q_number_in : ∃ fd, Fun K "number_in" "number_in" s_number_in f_number_in fd)
    (n_Words : PySem.W.nsIn K mainGlobals "Words" = some (some (.ref c_Words)))
    (pg_Words : PySem.W.plainGet K c_Words Str.empty = true)
    (hd_Words : PySem.W.hasDictIn K c_Words = true)
    (po_Words : PySem.W.plainOver K c_Words = true)
    (sa_Words : PySem.W.findIn K (.ref c_Words) "__setattr__" = some (some (.builtin "object.__setattr__")))
    (nf_Words_split_words : PySem.W.findIn K (.ref c_Words) "split_words" = some none)
    (nf_Words_line_index : PySem.W.findIn K (.ref c_Words) "line_index" = some none)
    (nf_Words_next_index : PySem.W.findIn K (.ref c_Words) "next_index" = some none)
    (n_BadText : PySem.W.nsIn K mainGlobals "BadText" = some (some (.ref c_BadText)))
    (xo_BadText : oexB K c_BadText = true)
    (xs_BadText : PySem.W.findIn K (.ref c_BadText) "__setattr__" = some (some (.builtin "object.__setattr__")))
    (xb_BadText : PySem.W.subIn K (.ref c_BadText) (.type "BaseException") = some true)
    (xt_BadText : PySem.W.typeIn K (.ref c_BadText) = some (.type "type"))
    (xk_BadText : PySem.W.keepIn K (.ref c_BadText) = true)
    (xi_BadText : PySem.W.findIn K (.ref c_BadText) "__init__" = some (some (.ref f_BadText___init__)))
    (xf_BadText : PySem.W.typeIn K (.ref f_BadText___init__) = some (.type "function"))
    (xq_BadText : ∃ fd, XiE P K "BadText.__init__" m_BadText___init__ f_BadText___init__ cl_BadText fd)
    (xy_BadText : cellB K cl_BadText c_BadText = true)
    (xu_BadText : PySem.W.ks_superIn K c_BadText c_BadText "__init__" = some (some (.builtin "ValueError.__init__")))
    (xw_BadText : PySem.W.subIn K (.ref c_BadText) (.type "ValueError") = some true)
    (xm_BadText : PySem.W.mroIn K c_BadText (.ref c_BadText) = some true)
    (xn_BadText_line : PySem.W.findIn K (.ref c_BadText) "line" = some none)
    (xn_BadText_word : PySem.W.findIn K (.ref c_BadText) "word" = some none)
    (xcl_BadText : (PySem.W.clsIn K c_BadText).isSome = true)
    (hdi_BadText : PySem.W.hasDictIn K c_BadText = true)
    (xga_BadText : PySem.W.findIn K (.ref c_BadText) "__getattribute__" = some (some (.builtin "BaseException.__getattribute__")))
    (xgg_BadText : PySem.W.findIn K (.ref c_BadText) "__getattr__" = some none)
    (xha_BadText : PySem.W.findIn K (.ref c_BadText) "__class__" = some (some (.builtin "object.__class__")))
    (xmo_BadText : PySem.W.mroIn K c_BadText (.type "object") = some true)
    (a_Words___init__ : PySem.W.findIn K (.ref c_Words) "__init__" = some (some (.ref f_Words___init__)))
    (q_Words___init__ : ∃ fd, FunD K "__init__" "Words.__init__" (defArgs m_Words___init__) (defBody m_Words___init__) (defScope m_Words___init__) ([.int 0] : List V) [] f_Words___init__ fd)
    (i_Words___init__ : PySem.W.isFn K (.ref f_Words___init__) = true)
    (mk_Words : PySem.W.makesIn K c_Words = true)
    (kc_Words : PySem.W.keepIn K (.ref c_Words) = true)
    (a_Words_refuse : PySem.W.findIn K (.ref c_Words) "refuse" = some (some (.ref f_Words_refuse)))
    (q_Words_refuse : ∃ fd, FunD K "refuse" "Words.refuse" (defArgs m_Words_refuse) (defBody m_Words_refuse) (defScope m_Words_refuse) ([.non] : List V) [] f_Words_refuse fd)
    (i_Words_refuse : PySem.W.isFn K (.ref f_Words_refuse) = true)
    (a_Words_is_over : PySem.W.findIn K (.ref c_Words) "is_over" = some (some (.ref f_Words_is_over)))
    (q_Words_is_over : ∃ fd, Fun K "is_over" "Words.is_over" m_Words_is_over f_Words_is_over fd)
    (i_Words_is_over : PySem.W.isFn K (.ref f_Words_is_over) = true)
    (a_Words_upcoming : PySem.W.findIn K (.ref c_Words) "upcoming" = some (some (.ref f_Words_upcoming)))
    (q_Words_upcoming : ∃ fd, Fun K "upcoming" "Words.upcoming" m_Words_upcoming f_Words_upcoming fd)
    (i_Words_upcoming : PySem.W.isFn K (.ref f_Words_upcoming) = true)
    (a_Words_skip : PySem.W.findIn K (.ref c_Words) "skip" = some (some (.ref f_Words_skip)))
    (q_Words_skip : ∃ fd, Fun K "skip" "Words.skip" m_Words_skip f_Words_skip fd)
    (i_Words_skip : PySem.W.isFn K (.ref f_Words_skip) = true)
    (a_Words_take_of : PySem.W.findIn K (.ref c_Words) "take_of" = some (some (.ref f_Words_take_of)))
    (q_Words_take_of : ∃ fd, Fun K "take_of" "Words.take_of" m_Words_take_of f_Words_take_of fd)
    (i_Words_take_of : PySem.W.isFn K (.ref f_Words_take_of) = true)
    (a_Words_take_name : PySem.W.findIn K (.ref c_Words) "take_name" = some (some (.ref f_Words_take_name)))
    (q_Words_take_name : ∃ fd, Fun K "take_name" "Words.take_name" m_Words_take_name f_Words_take_name fd)
    (i_Words_take_name : PySem.W.isFn K (.ref f_Words_take_name) = true)
    (a_Words_take_number : PySem.W.findIn K (.ref c_Words) "take_number" = some (some (.ref f_Words_take_number)))
    (q_Words_take_number : ∃ fd, FunD K "take_number" "Words.take_number" (defArgs m_Words_take_number) (defBody m_Words_take_number) (defScope m_Words_take_number) ([.non] : List V) [] f_Words_take_number fd)
    (i_Words_take_number : PySem.W.isFn K (.ref f_Words_take_number) = true)
    (a_Words_close : PySem.W.findIn K (.ref c_Words) "close" = some (some (.ref f_Words_close)))
    (q_Words_close : ∃ fd, Fun K "close" "Words.close" m_Words_close f_Words_close fd)
    (i_Words_close : PySem.W.isFn K (.ref f_Words_close) = true)
    (n_Tie : PySem.W.nsIn K mainGlobals "Tie" = some (some (.ref c_Tie)))
    (n_Numbered : PySem.W.nsIn K mainGlobals "Numbered" = some (some (.ref c_Numbered)))
    (n_Back : PySem.W.nsIn K mainGlobals "Back" = some (some (.ref c_Back)))
    (pg_Back : PySem.W.plainGet K c_Back Str.empty = true)
    (hd_Back : PySem.W.hasDictIn K c_Back = true)
    (po_Back : PySem.W.plainOver K c_Back = true)
    (sa_Back : PySem.W.findIn K (.ref c_Back) "__setattr__" = some (some (.builtin "object.__setattr__")))
    (nf_Back_source : PySem.W.findIn K (.ref c_Back) "source" = some none)
    (nf_Back_number : PySem.W.findIn K (.ref c_Back) "number" = some none)
    (n_Ahead : PySem.W.nsIn K mainGlobals "Ahead" = some (some (.ref c_Ahead)))
    (pg_Ahead : PySem.W.plainGet K c_Ahead Str.empty = true)
    (hd_Ahead : PySem.W.hasDictIn K c_Ahead = true)
    (po_Ahead : PySem.W.plainOver K c_Ahead = true)
    (sa_Ahead : PySem.W.findIn K (.ref c_Ahead) "__setattr__" = some (some (.builtin "object.__setattr__")))
    (nf_Ahead_source : PySem.W.findIn K (.ref c_Ahead) "source" = some none)
    (nf_Ahead_number : PySem.W.findIn K (.ref c_Ahead) "number" = some none)
    (n_Sofar : PySem.W.nsIn K mainGlobals "Sofar" = some (some (.ref c_Sofar)))
    (pg_Sofar : PySem.W.plainGet K c_Sofar Str.empty = true)
    (hd_Sofar : PySem.W.hasDictIn K c_Sofar = true)
    (po_Sofar : PySem.W.plainOver K c_Sofar = true)
    (sa_Sofar : PySem.W.findIn K (.ref c_Sofar) "__setattr__" = some (some (.builtin "object.__setattr__")))
    (nf_Sofar_source : PySem.W.findIn K (.ref c_Sofar) "source" = some none)
    (n_Whole : PySem.W.nsIn K mainGlobals "Whole" = some (some (.ref c_Whole)))
    (pg_Whole : PySem.W.plainGet K c_Whole Str.empty = true)
    (hd_Whole : PySem.W.hasDictIn K c_Whole = true)
    (po_Whole : PySem.W.plainOver K c_Whole = true)
    (sa_Whole : PySem.W.findIn K (.ref c_Whole) "__setattr__" = some (some (.builtin "object.__setattr__")))
    (nf_Whole_source : PySem.W.findIn K (.ref c_Whole) "source" = some none)
    (n_Last : PySem.W.nsIn K mainGlobals "Last" = some (some (.ref c_Last)))
    (pg_Last : PySem.W.plainGet K c_Last Str.empty = true)
    (hd_Last : PySem.W.hasDictIn K c_Last = true)
    (po_Last : PySem.W.plainOver K c_Last = true)
    (sa_Last : PySem.W.findIn K (.ref c_Last) "__setattr__" = some (some (.builtin "object.__setattr__")))
    (nf_Last_source : PySem.W.findIn K (.ref c_Last) "source" = some none)
    (n_Same : PySem.W.nsIn K mainGlobals "Same" = some (some (.ref c_Same)))
    (pg_Same : PySem.W.plainGet K c_Same Str.empty = true)
    (hd_Same : PySem.W.hasDictIn K c_Same = true)
    (po_Same : PySem.W.plainOver K c_Same = true)
    (sa_Same : PySem.W.findIn K (.ref c_Same) "__setattr__" = some (some (.builtin "object.__setattr__")))
    (nf_Same_source : PySem.W.findIn K (.ref c_Same) "source" = some none)
    (a_Tie___init__ : PySem.W.findIn K (.ref c_Tie) "__init__" = some (some (.ref f_Tie___init__)))
    (q_Tie___init__ : ∃ fd, Fun K "__init__" "Tie.__init__" m_Tie___init__ f_Tie___init__ fd)
    (a_Sofar___init__ : PySem.W.findIn K (.ref c_Sofar) "__init__" = some (some (.ref f_Tie___init__)))
    (i_Tie___init__ : PySem.W.isFn K (.ref f_Tie___init__) = true)
    (mk_Sofar : PySem.W.makesIn K c_Sofar = true)
    (kc_Sofar : PySem.W.keepIn K (.ref c_Sofar) = true)
    (a_Whole___init__ : PySem.W.findIn K (.ref c_Whole) "__init__" = some (some (.ref f_Tie___init__)))
    (mk_Whole : PySem.W.makesIn K c_Whole = true)
    (kc_Whole : PySem.W.keepIn K (.ref c_Whole) = true)
    (a_Last___init__ : PySem.W.findIn K (.ref c_Last) "__init__" = some (some (.ref f_Tie___init__)))
    (mk_Last : PySem.W.makesIn K c_Last = true)
    (kc_Last : PySem.W.keepIn K (.ref c_Last) = true)
    (a_Same___init__ : PySem.W.findIn K (.ref c_Same) "__init__" = some (some (.ref f_Tie___init__)))
    (mk_Same : PySem.W.makesIn K c_Same = true)
    (kc_Same : PySem.W.keepIn K (.ref c_Same) = true)
    (crd_Tie : PySem.W.readsIn K c_Tie (.type "type") = true)
    (cga_Tie : PySem.W.specialIn K (.ref c_Tie) "__getattribute__" = some (some (.builtin "type.__getattribute__")))
    (u_Tie___init__ : PySem.W.findCls K (.ref c_Tie) (.type "type") "__init__" = some (.val (.ref f_Tie___init__)))
    (a_Numbered___init__ : PySem.W.findIn K (.ref c_Numbered) "__init__" = some (some (.ref f_Numbered___init__)))
    (q_Numbered___init__ : ∃ fd, Fun K "__init__" "Numbered.__init__" m_Numbered___init__ f_Numbered___init__ fd)
    (crd_Numbered : PySem.W.readsIn K c_Numbered (.type "type") = true)
    (cga_Numbered : PySem.W.specialIn K (.ref c_Numbered) "__getattribute__" = some (some (.builtin "type.__getattribute__")))
    (u_Numbered___init__ : PySem.W.findCls K (.ref c_Numbered) (.type "type") "__init__" = some (.val (.ref f_Numbered___init__)))
    (n_BadNumber : PySem.W.nsIn K mainGlobals "BadNumber" = some (some (.ref c_BadNumber)))
    (xo_BadNumber : oexB K c_BadNumber = true)
    (xs_BadNumber : PySem.W.findIn K (.ref c_BadNumber) "__setattr__" = some (some (.builtin "object.__setattr__")))
    (xb_BadNumber : PySem.W.subIn K (.ref c_BadNumber) (.type "BaseException") = some true)
    (xt_BadNumber : PySem.W.typeIn K (.ref c_BadNumber) = some (.type "type"))
    (xk_BadNumber : PySem.W.keepIn K (.ref c_BadNumber) = true)
    (xi_BadNumber : PySem.W.findIn K (.ref c_BadNumber) "__init__" = some (some (.ref f_BadNumber___init__)))
    (xf_BadNumber : PySem.W.typeIn K (.ref f_BadNumber___init__) = some (.type "function"))
    (xq_BadNumber : ∃ fd, XiE P K "BadNumber.__init__" m_BadNumber___init__ f_BadNumber___init__ cl_BadNumber fd)
    (xy_BadNumber : cellB K cl_BadNumber c_BadNumber = true)
    (xu_BadNumber : PySem.W.ks_superIn K c_BadNumber c_BadNumber "__init__" = some (some (.builtin "ValueError.__init__")))
    (xw_BadNumber : PySem.W.subIn K (.ref c_BadNumber) (.type "ValueError") = some true)
    (xm_BadNumber : PySem.W.mroIn K c_BadNumber (.ref c_BadNumber) = some true)
    (xn_BadNumber_value : PySem.W.findIn K (.ref c_BadNumber) "value" = some none)
    (xcl_BadNumber : (PySem.W.clsIn K c_BadNumber).isSome = true)
    (hdi_BadNumber : PySem.W.hasDictIn K c_BadNumber = true)
    (xga_BadNumber : PySem.W.findIn K (.ref c_BadNumber) "__getattribute__" = some (some (.builtin "BaseException.__getattribute__")))
    (xgg_BadNumber : PySem.W.findIn K (.ref c_BadNumber) "__getattr__" = some none)
    (xha_BadNumber : PySem.W.findIn K (.ref c_BadNumber) "__class__" = some (some (.builtin "object.__class__")))
    (xmo_BadNumber : PySem.W.mroIn K c_BadNumber (.type "object") = some true)
    (v_MOST_OFFSET : intB K "MOST_OFFSET" 60 = true)
    (a_Back___init__ : PySem.W.findIn K (.ref c_Back) "__init__" = some (some (.ref f_Back___init__)))
    (q_Back___init__ : ∃ fd, Fun K "__init__" "Back.__init__" m_Back___init__ f_Back___init__ fd)
    (i_Back___init__ : PySem.W.isFn K (.ref f_Back___init__) = true)
    (mk_Back : PySem.W.makesIn K c_Back = true)
    (kc_Back : PySem.W.keepIn K (.ref c_Back) = true)
    (a_Ahead___init__ : PySem.W.findIn K (.ref c_Ahead) "__init__" = some (some (.ref f_Ahead___init__)))
    (q_Ahead___init__ : ∃ fd, Fun K "__init__" "Ahead.__init__" m_Ahead___init__ f_Ahead___init__ fd)
    (i_Ahead___init__ : PySem.W.isFn K (.ref f_Ahead___init__) = true)
    (mk_Ahead : PySem.W.makesIn K c_Ahead = true)
    (kc_Ahead : PySem.W.keepIn K (.ref c_Ahead) = true)
    (a_Back___str__ : PySem.W.findIn K (.ref c_Back) "__str__" = some (some (.ref f_Back___str__)))
    (q_Back___str__ : ∃ fd, Fun K "__str__" "Back.__str__" m_Back___str__ f_Back___str__ fd)
    (i_Back___str__ : PySem.W.isFn K (.ref f_Back___str__) = true)
    (a_Ahead___str__ : PySem.W.findIn K (.ref c_Ahead) "__str__" = some (some (.ref f_Ahead___str__)))
    (q_Ahead___str__ : ∃ fd, Fun K "__str__" "Ahead.__str__" m_Ahead___str__ f_Ahead___str__ fd)
    (i_Ahead___str__ : PySem.W.isFn K (.ref f_Ahead___str__) = true)
    (a_Sofar___str__ : PySem.W.findIn K (.ref c_Sofar) "__str__" = some (some (.ref f_Sofar___str__)))
    (q_Sofar___str__ : ∃ fd, Fun K "__str__" "Sofar.__str__" m_Sofar___str__ f_Sofar___str__ fd)
    (i_Sofar___str__ : PySem.W.isFn K (.ref f_Sofar___str__) = true)
    (a_Whole___str__ : PySem.W.findIn K (.ref c_Whole) "__str__" = some (some (.ref f_Whole___str__)))
    (q_Whole___str__ : ∃ fd, Fun K "__str__" "Whole.__str__" m_Whole___str__ f_Whole___str__ fd)
    (i_Whole___str__ : PySem.W.isFn K (.ref f_Whole___str__) = true)
    (a_Last___str__ : PySem.W.findIn K (.ref c_Last) "__str__" = some (some (.ref f_Last___str__)))
    (q_Last___str__ : ∃ fd, Fun K "__str__" "Last.__str__" m_Last___str__ f_Last___str__ fd)
    (i_Last___str__ : PySem.W.isFn K (.ref f_Last___str__) = true)
    (a_Same___str__ : PySem.W.findIn K (.ref c_Same) "__str__" = some (some (.ref f_Same___str__)))
    (q_Same___str__ : ∃ fd, Fun K "__str__" "Same.__str__" m_Same___str__ f_Same___str__ fd)
    (i_Same___str__ : PySem.W.isFn K (.ref f_Same___str__) = true)
    (ha_Back : PySem.W.findIn K (.ref c_Back) "__class__" = some (some (.builtin "object.__class__")))
    (mo_Back : PySem.W.mroIn K c_Back (.type "object") = some true)
    (ne_Back : PySem.W.findIn K (.ref c_Back) "__ne__" = some (some (.builtin "object.__ne__")))
    (kt1_Back : PySem.W.kitOne K (.ref c_Back) (.ref c_Tie) = some true)
    (ha_Ahead : PySem.W.findIn K (.ref c_Ahead) "__class__" = some (some (.builtin "object.__class__")))
    (mo_Ahead : PySem.W.mroIn K c_Ahead (.type "object") = some true)
    (ne_Ahead : PySem.W.findIn K (.ref c_Ahead) "__ne__" = some (some (.builtin "object.__ne__")))
    (kt1_Ahead : PySem.W.kitOne K (.ref c_Ahead) (.ref c_Tie) = some true)
    (ha_Sofar : PySem.W.findIn K (.ref c_Sofar) "__class__" = some (some (.builtin "object.__class__")))
    (mo_Sofar : PySem.W.mroIn K c_Sofar (.type "object") = some true)
    (ne_Sofar : PySem.W.findIn K (.ref c_Sofar) "__ne__" = some (some (.builtin "object.__ne__")))
    (kt1_Sofar : PySem.W.kitOne K (.ref c_Sofar) (.ref c_Tie) = some true)
    (ha_Whole : PySem.W.findIn K (.ref c_Whole) "__class__" = some (some (.builtin "object.__class__")))
    (mo_Whole : PySem.W.mroIn K c_Whole (.type "object") = some true)
    (ne_Whole : PySem.W.findIn K (.ref c_Whole) "__ne__" = some (some (.builtin "object.__ne__")))
    (kt1_Whole : PySem.W.kitOne K (.ref c_Whole) (.ref c_Tie) = some true)
    (ha_Last : PySem.W.findIn K (.ref c_Last) "__class__" = some (some (.builtin "object.__class__")))
    (mo_Last : PySem.W.mroIn K c_Last (.type "object") = some true)
    (ne_Last : PySem.W.findIn K (.ref c_Last) "__ne__" = some (some (.builtin "object.__ne__")))
    (kt1_Last : PySem.W.kitOne K (.ref c_Last) (.ref c_Tie) = some true)
    (ha_Same : PySem.W.findIn K (.ref c_Same) "__class__" = some (some (.builtin "object.__class__")))
    (mo_Same : PySem.W.mroIn K c_Same (.type "object") = some true)
    (ne_Same : PySem.W.findIn K (.ref c_Same) "__ne__" = some (some (.builtin "object.__ne__")))
    (kt1_Same : PySem.W.kitOne K (.ref c_Same) (.ref c_Tie) = some true)
    (kt1_none : PySem.W.kitOne K (.type "NoneType") (.ref c_Tie) = some false)
    (kt1_bool : PySem.W.kitOne K (.type "bool") (.ref c_Tie) = some false)
    (kt1_int : PySem.W.kitOne K (.type "int") (.ref c_Tie) = some false)
    (kt1_str : PySem.W.kitOne K (.type "str") (.ref c_Tie) = some false)
    (kt1_list : PySem.W.kitOne K (.type "list") (.ref c_Tie) = some false)
    (kt1_tuple : PySem.W.kitOne K (.type "tuple") (.ref c_Tie) = some false)
    (kt1_dict : PySem.W.kitOne K (.type "dict") (.ref c_Tie) = some false)
    (a_Tie___eq__ : PySem.W.findIn K (.ref c_Tie) "__eq__" = some (some (.ref f_Tie___eq__)))
    (q_Tie___eq__ : ∃ fd, Fun K "__eq__" "Tie.__eq__" m_Tie___eq__ f_Tie___eq__ fd)
    (a_Back___eq__ : PySem.W.findIn K (.ref c_Back) "__eq__" = some (some (.ref f_Tie___eq__)))
    (i_Tie___eq__ : PySem.W.isFn K (.ref f_Tie___eq__) = true)
    (a_Ahead___eq__ : PySem.W.findIn K (.ref c_Ahead) "__eq__" = some (some (.ref f_Tie___eq__)))
    (a_Sofar___eq__ : PySem.W.findIn K (.ref c_Sofar) "__eq__" = some (some (.ref f_Tie___eq__)))
    (a_Whole___eq__ : PySem.W.findIn K (.ref c_Whole) "__eq__" = some (some (.ref f_Tie___eq__)))
    (a_Last___eq__ : PySem.W.findIn K (.ref c_Last) "__eq__" = some (some (.ref f_Tie___eq__)))
    (a_Same___eq__ : PySem.W.findIn K (.ref c_Same) "__eq__" = some (some (.ref f_Tie___eq__)))
    (nf_Back_Back : PySem.W.notFirst K c_Back (.ref c_Back) = true)
    (nf_Back_Ahead : PySem.W.notFirst K c_Back (.ref c_Ahead) = true)
    (nf_Back_Sofar : PySem.W.notFirst K c_Back (.ref c_Sofar) = true)
    (nf_Back_Whole : PySem.W.notFirst K c_Back (.ref c_Whole) = true)
    (nf_Back_Last : PySem.W.notFirst K c_Back (.ref c_Last) = true)
    (nf_Back_Same : PySem.W.notFirst K c_Back (.ref c_Same) = true)
    (nf_Ahead_Back : PySem.W.notFirst K c_Ahead (.ref c_Back) = true)
    (nf_Ahead_Ahead : PySem.W.notFirst K c_Ahead (.ref c_Ahead) = true)
    (nf_Ahead_Sofar : PySem.W.notFirst K c_Ahead (.ref c_Sofar) = true)
    (nf_Ahead_Whole : PySem.W.notFirst K c_Ahead (.ref c_Whole) = true)
    (nf_Ahead_Last : PySem.W.notFirst K c_Ahead (.ref c_Last) = true)
    (nf_Ahead_Same : PySem.W.notFirst K c_Ahead (.ref c_Same) = true)
    (nf_Sofar_Back : PySem.W.notFirst K c_Sofar (.ref c_Back) = true)
    (nf_Sofar_Ahead : PySem.W.notFirst K c_Sofar (.ref c_Ahead) = true)
    (nf_Sofar_Sofar : PySem.W.notFirst K c_Sofar (.ref c_Sofar) = true)
    (nf_Sofar_Whole : PySem.W.notFirst K c_Sofar (.ref c_Whole) = true)
    (nf_Sofar_Last : PySem.W.notFirst K c_Sofar (.ref c_Last) = true)
    (nf_Sofar_Same : PySem.W.notFirst K c_Sofar (.ref c_Same) = true)
    (nf_Whole_Back : PySem.W.notFirst K c_Whole (.ref c_Back) = true)
    (nf_Whole_Ahead : PySem.W.notFirst K c_Whole (.ref c_Ahead) = true)
    (nf_Whole_Sofar : PySem.W.notFirst K c_Whole (.ref c_Sofar) = true)
    (nf_Whole_Whole : PySem.W.notFirst K c_Whole (.ref c_Whole) = true)
    (nf_Whole_Last : PySem.W.notFirst K c_Whole (.ref c_Last) = true)
    (nf_Whole_Same : PySem.W.notFirst K c_Whole (.ref c_Same) = true)
    (nf_Last_Back : PySem.W.notFirst K c_Last (.ref c_Back) = true)
    (nf_Last_Ahead : PySem.W.notFirst K c_Last (.ref c_Ahead) = true)
    (nf_Last_Sofar : PySem.W.notFirst K c_Last (.ref c_Sofar) = true)
    (nf_Last_Whole : PySem.W.notFirst K c_Last (.ref c_Whole) = true)
    (nf_Last_Last : PySem.W.notFirst K c_Last (.ref c_Last) = true)
    (nf_Last_Same : PySem.W.notFirst K c_Last (.ref c_Same) = true)
    (nf_Same_Back : PySem.W.notFirst K c_Same (.ref c_Back) = true)
    (nf_Same_Ahead : PySem.W.notFirst K c_Same (.ref c_Ahead) = true)
    (nf_Same_Sofar : PySem.W.notFirst K c_Same (.ref c_Sofar) = true)
    (nf_Same_Whole : PySem.W.notFirst K c_Same (.ref c_Whole) = true)
    (nf_Same_Last : PySem.W.notFirst K c_Same (.ref c_Last) = true)
    (nf_Same_Same : PySem.W.notFirst K c_Same (.ref c_Same) = true)
    (a__law_tie : PySem.W.nsIn K mainGlobals "_law_tie" = some (some (.ref f__law_tie)))
    (q__law_tie : ∃ fd, Fun K "_law_tie" "_law_tie" s__law_tie f__law_tie fd)
    (a__law_plain : PySem.W.nsIn K mainGlobals "_law_plain" = some (some (.ref f__law_plain)))
    (q__law_plain : ∃ fd, Fun K "_law_plain" "_law_plain" s__law_plain f__law_plain fd)
    (v_TIE_WORDS : strsB K "TIE_WORDS" kdL = true)
    (a_take_tie : PySem.W.nsIn K mainGlobals "take_tie" = some (some (.ref f_take_tie)))
    (q_take_tie : ∃ fd, Fun K "take_tie" "take_tie" s_take_tie f_take_tie fd)
    (a_Tie_read : PySem.W.findCls K (.ref c_Tie) (.type "type") "read" = some (.get (.builtin "classmethod.__get__") (.ref p_Tie_read) .none (.ref c_Tie)))
    (r_Tie_read : PySem.W.recIn K p_Tie_read "classmethod" = some (.ref f_Tie_read :: rs_Tie_read))
    (n_Tie_read : PySem.W.fnIn K f_Tie_read = true)
    (q_Tie_read : ∃ fd, Fun K "read" "Tie.read" m_Tie_read f_Tie_read fd)
    (n_DayError : PySem.W.nsIn K mainGlobals "DayError" = some (some (.ref c_DayError)))
    (xm1_BadText : PySem.W.exmOne K (.ref c_BadText) (.ref c_DayError) = some true)
    (kx1_BadText : PySem.W.kitOne K (.ref c_BadText) (.ref c_BadText) = some true)
    (a__law_heard : PySem.W.nsIn K mainGlobals "_law_heard" = some (some (.ref f__law_heard)))
    (q__law_heard : ∃ fd, Fun K "_law_heard" "_law_heard" s__law_heard f__law_heard fd)
    (a__law_wrong : PySem.W.nsIn K mainGlobals "_law_wrong" = some (some (.ref f__law_wrong)))
    (q__law_wrong : ∃ fd, Fun K "_law_wrong" "_law_wrong" s__law_wrong f__law_wrong fd)
    (a__law_bent : PySem.W.nsIn K mainGlobals "_law_bent" = some (some (.ref f__law_bent)))
    (q__law_bent : ∃ fd, Fun K "_law_bent" "_law_bent" s__law_bent f__law_bent fd)
    (ks_Back : PySem.W.kitOne K (.ref c_Back) (.type "str") = some false)
    (ks_Ahead : PySem.W.kitOne K (.ref c_Ahead) (.type "str") = some false)
    (ks_Sofar : PySem.W.kitOne K (.ref c_Sofar) (.type "str") = some false)
    (ks_Whole : PySem.W.kitOne K (.ref c_Whole) (.type "str") = some false)
    (ks_Last : PySem.W.kitOne K (.ref c_Last) (.type "str") = some false)
    (ks_Same : PySem.W.kitOne K (.ref c_Same) (.type "str") = some false)
    (a_law : PySem.W.nsIn K mainGlobals "law" = some (some (.ref f_law)))
    (q_law : ∃ fd, Fun K "law" "law" s_law f_law fd)
    (th_law : PySem.W.codeHdIn K (codeA K f_law) P_law = true)
    (tm_law : P_law ∈ ts)
    (tnd : ([P_law] : List Addr).Nodup)
    : ∃ (fd : FuncData) (cs : List (Addr × Addr × Str)), (∀ p ∈ cs, p.2.1 ∈ ts ∧ PySem.W.codeHdIn K p.1 p.2.1 = true) ∧ (cs.map (·.2.1)).Nodup ∧ (∀ (s : Shared) (v : Value), BindsTo s fd ⟨[v], []⟩ [("_law_script", v)]) ∧ ∀ base : Heap, K.In base → base.Ns mainGlobals mg → (∀ p ∈ cs, LamX.TabB base mg p.1 p.2.1) → FnG ⟨P, w, K, mg, base⟩ 17 fa fd ["_law_script"] (spD K (TLawT (cs.map fun p => (p.2.1, p.2.2)) 63)) := by
  have e := hfa.symm.trans (PySem.W.mg_of X G a_law)
  have e2 : f_law = fa := by
    cases e
    rfl
  subst e2
  have B : Bi mg := ⟨PySem.W.mg_none_of X G b_int, PySem.W.mg_none_of X G b_len, PySem.W.mg_none_of X G b_abs, PySem.W.mg_none_of X G b_list, PySem.W.mg_none_of X G b_tuple, PySem.W.mg_none_of X G b_range, PySem.W.mg_none_of X G b_isinstance, PySem.W.mg_none_of X G b_sum, PySem.W.mg_none_of X G b_enumerate, PySem.W.mg_none_of X G b_repr, PySem.W.mg_none_of X G b_str, PySem.W.mg_none_of X G b_sorted, PySem.W.mg_none_of X G b_dict, PySem.W.mg_none_of X G b_max, PySem.W.mg_none_of X G b_min, PySem.W.mg_none_of X G b_all, PySem.W.mg_none_of X G b_any, PySem.W.mg_none_of X G b_bool, PySem.W.mg_none_of X G b_iter, PySem.W.mg_none_of X G b_super, PySem.W.mg_none_of X G b_set, PySem.W.mg_none_of X G b_zip, PySem.W.mg_none_of X G b_object⟩
  obtain ⟨_, ⟨oc__law_pen, od__law_pen, kV__law_pen, dc__law_pen, pm__law_pen, an__law_pen, cd__law_pen, ct__law_pen, sl__law_pen, rfl, l__law_pen, d__law_pen⟩, k__law_pen⟩ := q__law_pen
  have F__law_pen := fun_mk (st := s__law_pen) l__law_pen d__law_pen k__law_pen
  have b__law_pen := F__law_pen.binds (ps := ["_law_script"]) fun _ _ _ _ _ _ us hl => match us, hl with | [_], _ => rfl
  obtain ⟨_, ⟨oc__law_draw, od__law_draw, kV__law_draw, dc__law_draw, pm__law_draw, an__law_draw, cd__law_draw, ct__law_draw, sl__law_draw, rfl, l__law_draw, d__law_draw⟩, k__law_draw⟩ := q__law_draw
  have F__law_draw := fun_mk (st := s__law_draw) l__law_draw d__law_draw k__law_draw
  have b__law_draw := F__law_draw.binds (ps := ["_law_pen_here", "_law_many"]) fun _ _ _ _ _ _ us hl => match us, hl with | [_, _], _ => rfl
  obtain ⟨_, ⟨oc__law_pick, od__law_pick, kV__law_pick, dc__law_pick, pm__law_pick, an__law_pick, cd__law_pick, ct__law_pick, sl__law_pick, rfl, l__law_pick, d__law_pick⟩, k__law_pick⟩ := q__law_pick
  have F__law_pick := fun_mk (st := s__law_pick) l__law_pick d__law_pick k__law_pick
  have b__law_pick := F__law_pick.binds (ps := ["_law_pen_here", "_law_some"]) fun _ _ _ _ _ _ us hl => match us, hl with | [_, _], _ => rfl
  obtain ⟨_, ⟨oc_is_integer, od_is_integer, kV_is_integer, dc_is_integer, pm_is_integer, an_is_integer, cd_is_integer, ct_is_integer, sl_is_integer, rfl, l_is_integer, d_is_integer⟩, k_is_integer⟩ := q_is_integer
  have F_is_integer := fun_mk (st := s_is_integer) l_is_integer d_is_integer k_is_integer
  have b_is_integer := F_is_integer.binds (ps := ["value"]) fun _ _ _ _ _ _ us hl => match us, hl with | [_], _ => rfl
  obtain ⟨_, ⟨oc_is_within, od_is_within, kV_is_within, dc_is_within, pm_is_within, an_is_within, cd_is_within, ct_is_within, sl_is_within, rfl, l_is_within, d_is_within⟩, k_is_within⟩ := q_is_within
  have F_is_within := fun_mk (st := s_is_within) l_is_within d_is_within k_is_within
  have b_is_within := F_is_within.binds (ps := ["value", "least", "most"]) fun _ _ _ _ _ _ us hl => match us, hl with | [_, _, _], _ => rfl
  obtain ⟨_, ⟨oc_is_name, od_is_name, kV_is_name, dc_is_name, pm_is_name, an_is_name, cd_is_name, ct_is_name, sl_is_name, rfl, l_is_name, d_is_name⟩, k_is_name⟩ := q_is_name
  have F_is_name := fun_mk (st := s_is_name) l_is_name d_is_name k_is_name
  have b_is_name := F_is_name.binds (ps := ["value"]) fun _ _ _ _ _ _ us hl => match us, hl with | [_], _ => rfl
  obtain ⟨_, oc_BadName___init__, od_BadName___init__, kV_BadName___init__, dc_BadName___init__, pm_BadName___init__, an_BadName___init__, cd_BadName, ct_BadName___init__, sl_BadName___init__, cc1_BadName, cc2_BadName, cc3_BadName, vs_BadName, file_BadName, tf_BadName, rfl, xl_BadName, xd_BadName, xc_BadName, xv_BadName, xe_BadName⟩ := xq_BadName
  obtain ⟨cl1_BadName, cl2_BadName, cl3_BadName, xy_BadName⟩ := cellB_ok xy_BadName
  obtain ⟨nm_BadName, q_BadName, N_BadName, bs_BadName, bm_BadName, sn_BadName, sub_BadName, ab_BadName, col_BadName, dd_BadName, k0_BadName, k1_BadName, k2_BadName, k3_BadName, k5_BadName, xo_BadName, xr_BadName⟩ := oexB_ok xo_BadName
  obtain ⟨_, ⟨oc_need_name, od_need_name, kV_need_name, dc_need_name, pm_need_name, an_need_name, cd_need_name, ct_need_name, sl_need_name, rfl, l_need_name, d_need_name⟩, k_need_name⟩ := q_need_name
  have F_need_name := fun_mk (st := s_need_name) l_need_name d_need_name k_need_name
  have b_need_name := F_need_name.binds (ps := ["value"]) fun _ _ _ _ _ _ us hl => match us, hl with | [_], _ => rfl
  obtain ⟨_, ⟨oc_number_in, od_number_in, kV_number_in, dc_number_in, pm_number_in, an_number_in, cd_number_in, ct_number_in, sl_number_in, rfl, l_number_in, d_number_in⟩, k_number_in⟩ := q_number_in
  have F_number_in := fun_mk (st := s_number_in) l_number_in d_number_in k_number_in
  have b_number_in := F_number_in.binds (ps := ["word"]) fun _ _ _ _ _ _ us hl => match us, hl with | [_], _ => rfl
  obtain ⟨_, oc_BadText___init__, od_BadText___init__, kV_BadText___init__, dc_BadText___init__, pm_BadText___init__, an_BadText___init__, cd_BadText, ct_BadText___init__, sl_BadText___init__, cc1_BadText, cc2_BadText, cc3_BadText, vs_BadText, file_BadText, tf_BadText, rfl, xl_BadText, xd_BadText, xc_BadText, xv_BadText, xe_BadText⟩ := xq_BadText
  obtain ⟨cl1_BadText, cl2_BadText, cl3_BadText, xy_BadText⟩ := cellB_ok xy_BadText
  obtain ⟨nm_BadText, q_BadText, N_BadText, bs_BadText, bm_BadText, sn_BadText, sub_BadText, ab_BadText, col_BadText, dd_BadText, k0_BadText, k1_BadText, k2_BadText, k3_BadText, k5_BadText, xo_BadText, xr_BadText⟩ := oexB_ok xo_BadText
  obtain ⟨fd_Words___init__, F_Words___init__⟩ := q_Words___init__
  have k_Words___init__ := F_Words___init__.kp
  obtain ⟨fd_Words_refuse, F_Words_refuse⟩ := q_Words_refuse
  have k_Words_refuse := F_Words_refuse.kp
  obtain ⟨_, ⟨oc_Words_is_over, od_Words_is_over, kV_Words_is_over, dc_Words_is_over, pm_Words_is_over, an_Words_is_over, cd_Words_is_over, ct_Words_is_over, sl_Words_is_over, rfl, l_Words_is_over, d_Words_is_over⟩, k_Words_is_over⟩ := q_Words_is_over
  have F_Words_is_over := fun_mk (st := m_Words_is_over) l_Words_is_over d_Words_is_over k_Words_is_over
  have b_Words_is_over := F_Words_is_over.binds (ps := ["self"]) fun _ _ _ _ _ _ us hl => match us, hl with | [_], _ => rfl
  obtain ⟨_, ⟨oc_Words_upcoming, od_Words_upcoming, kV_Words_upcoming, dc_Words_upcoming, pm_Words_upcoming, an_Words_upcoming, cd_Words_upcoming, ct_Words_upcoming, sl_Words_upcoming, rfl, l_Words_upcoming, d_Words_upcoming⟩, k_Words_upcoming⟩ := q_Words_upcoming
  have F_Words_upcoming := fun_mk (st := m_Words_upcoming) l_Words_upcoming d_Words_upcoming k_Words_upcoming
  have b_Words_upcoming := F_Words_upcoming.binds (ps := ["self"]) fun _ _ _ _ _ _ us hl => match us, hl with | [_], _ => rfl
  obtain ⟨_, ⟨oc_Words_skip, od_Words_skip, kV_Words_skip, dc_Words_skip, pm_Words_skip, an_Words_skip, cd_Words_skip, ct_Words_skip, sl_Words_skip, rfl, l_Words_skip, d_Words_skip⟩, k_Words_skip⟩ := q_Words_skip
  have F_Words_skip := fun_mk (st := m_Words_skip) l_Words_skip d_Words_skip k_Words_skip
  have b_Words_skip := F_Words_skip.binds (ps := ["self"]) fun _ _ _ _ _ _ us hl => match us, hl with | [_], _ => rfl
  obtain ⟨_, ⟨oc_Words_take_of, od_Words_take_of, kV_Words_take_of, dc_Words_take_of, pm_Words_take_of, an_Words_take_of, cd_Words_take_of, ct_Words_take_of, sl_Words_take_of, rfl, l_Words_take_of, d_Words_take_of⟩, k_Words_take_of⟩ := q_Words_take_of
  have F_Words_take_of := fun_mk (st := m_Words_take_of) l_Words_take_of d_Words_take_of k_Words_take_of
  have b_Words_take_of := F_Words_take_of.binds (ps := ["self", "some"]) fun _ _ _ _ _ _ us hl => match us, hl with | [_, _], _ => rfl
  obtain ⟨_, ⟨oc_Words_take_name, od_Words_take_name, kV_Words_take_name, dc_Words_take_name, pm_Words_take_name, an_Words_take_name, cd_Words_take_name, ct_Words_take_name, sl_Words_take_name, rfl, l_Words_take_name, d_Words_take_name⟩, k_Words_take_name⟩ := q_Words_take_name
  have F_Words_take_name := fun_mk (st := m_Words_take_name) l_Words_take_name d_Words_take_name k_Words_take_name
  have b_Words_take_name := F_Words_take_name.binds (ps := ["self"]) fun _ _ _ _ _ _ us hl => match us, hl with | [_], _ => rfl
  obtain ⟨fd_Words_take_number, F_Words_take_number⟩ := q_Words_take_number
  have k_Words_take_number := F_Words_take_number.kp
  obtain ⟨_, ⟨oc_Words_close, od_Words_close, kV_Words_close, dc_Words_close, pm_Words_close, an_Words_close, cd_Words_close, ct_Words_close, sl_Words_close, rfl, l_Words_close, d_Words_close⟩, k_Words_close⟩ := q_Words_close
  have F_Words_close := fun_mk (st := m_Words_close) l_Words_close d_Words_close k_Words_close
  have b_Words_close := F_Words_close.binds (ps := ["self"]) fun _ _ _ _ _ _ us hl => match us, hl with | [_], _ => rfl
  obtain ⟨_, ⟨oc_Tie___init__, od_Tie___init__, kV_Tie___init__, dc_Tie___init__, pm_Tie___init__, an_Tie___init__, cd_Tie___init__, ct_Tie___init__, sl_Tie___init__, rfl, l_Tie___init__, d_Tie___init__⟩, k_Tie___init__⟩ := q_Tie___init__
  have F_Tie___init__ := fun_mk (st := m_Tie___init__) l_Tie___init__ d_Tie___init__ k_Tie___init__
  have b_Tie___init__ := F_Tie___init__.binds (ps := ["self", "source"]) fun _ _ _ _ _ _ us hl => match us, hl with | [_, _], _ => rfl
  obtain ⟨_, ⟨oc_Numbered___init__, od_Numbered___init__, kV_Numbered___init__, dc_Numbered___init__, pm_Numbered___init__, an_Numbered___init__, cd_Numbered___init__, ct_Numbered___init__, sl_Numbered___init__, rfl, l_Numbered___init__, d_Numbered___init__⟩, k_Numbered___init__⟩ := q_Numbered___init__
  have F_Numbered___init__ := fun_mk (st := m_Numbered___init__) l_Numbered___init__ d_Numbered___init__ k_Numbered___init__
  have b_Numbered___init__ := F_Numbered___init__.binds (ps := ["self", "number"]) fun _ _ _ _ _ _ us hl => match us, hl with | [_, _], _ => rfl
  obtain ⟨_, oc_BadNumber___init__, od_BadNumber___init__, kV_BadNumber___init__, dc_BadNumber___init__, pm_BadNumber___init__, an_BadNumber___init__, cd_BadNumber, ct_BadNumber___init__, sl_BadNumber___init__, cc1_BadNumber, cc2_BadNumber, cc3_BadNumber, vs_BadNumber, file_BadNumber, tf_BadNumber, rfl, xl_BadNumber, xd_BadNumber, xc_BadNumber, xv_BadNumber, xe_BadNumber⟩ := xq_BadNumber
  obtain ⟨cl1_BadNumber, cl2_BadNumber, cl3_BadNumber, xy_BadNumber⟩ := cellB_ok xy_BadNumber
  obtain ⟨nm_BadNumber, q_BadNumber, N_BadNumber, bs_BadNumber, bm_BadNumber, sn_BadNumber, sub_BadNumber, ab_BadNumber, col_BadNumber, dd_BadNumber, k0_BadNumber, k1_BadNumber, k2_BadNumber, k3_BadNumber, k5_BadNumber, xo_BadNumber, xr_BadNumber⟩ := oexB_ok xo_BadNumber
  obtain ⟨_, ⟨oc_Back___init__, od_Back___init__, kV_Back___init__, dc_Back___init__, pm_Back___init__, an_Back___init__, cd_Back___init__, ct_Back___init__, sl_Back___init__, rfl, l_Back___init__, d_Back___init__⟩, k_Back___init__⟩ := q_Back___init__
  have F_Back___init__ := fun_mk (st := m_Back___init__) l_Back___init__ d_Back___init__ k_Back___init__
  have b_Back___init__ := F_Back___init__.binds (ps := ["self", "source", "number"]) fun _ _ _ _ _ _ us hl => match us, hl with | [_, _, _], _ => rfl
  obtain ⟨_, ⟨oc_Ahead___init__, od_Ahead___init__, kV_Ahead___init__, dc_Ahead___init__, pm_Ahead___init__, an_Ahead___init__, cd_Ahead___init__, ct_Ahead___init__, sl_Ahead___init__, rfl, l_Ahead___init__, d_Ahead___init__⟩, k_Ahead___init__⟩ := q_Ahead___init__
  have F_Ahead___init__ := fun_mk (st := m_Ahead___init__) l_Ahead___init__ d_Ahead___init__ k_Ahead___init__
  have b_Ahead___init__ := F_Ahead___init__.binds (ps := ["self", "source", "number"]) fun _ _ _ _ _ _ us hl => match us, hl with | [_, _, _], _ => rfl
  obtain ⟨_, ⟨oc_Back___str__, od_Back___str__, kV_Back___str__, dc_Back___str__, pm_Back___str__, an_Back___str__, cd_Back___str__, ct_Back___str__, sl_Back___str__, rfl, l_Back___str__, d_Back___str__⟩, k_Back___str__⟩ := q_Back___str__
  have F_Back___str__ := fun_mk (st := m_Back___str__) l_Back___str__ d_Back___str__ k_Back___str__
  have b_Back___str__ := F_Back___str__.binds (ps := ["self"]) fun _ _ _ _ _ _ us hl => match us, hl with | [_], _ => rfl
  obtain ⟨_, ⟨oc_Ahead___str__, od_Ahead___str__, kV_Ahead___str__, dc_Ahead___str__, pm_Ahead___str__, an_Ahead___str__, cd_Ahead___str__, ct_Ahead___str__, sl_Ahead___str__, rfl, l_Ahead___str__, d_Ahead___str__⟩, k_Ahead___str__⟩ := q_Ahead___str__
  have F_Ahead___str__ := fun_mk (st := m_Ahead___str__) l_Ahead___str__ d_Ahead___str__ k_Ahead___str__
  have b_Ahead___str__ := F_Ahead___str__.binds (ps := ["self"]) fun _ _ _ _ _ _ us hl => match us, hl with | [_], _ => rfl
  obtain ⟨_, ⟨oc_Sofar___str__, od_Sofar___str__, kV_Sofar___str__, dc_Sofar___str__, pm_Sofar___str__, an_Sofar___str__, cd_Sofar___str__, ct_Sofar___str__, sl_Sofar___str__, rfl, l_Sofar___str__, d_Sofar___str__⟩, k_Sofar___str__⟩ := q_Sofar___str__
  have F_Sofar___str__ := fun_mk (st := m_Sofar___str__) l_Sofar___str__ d_Sofar___str__ k_Sofar___str__
  have b_Sofar___str__ := F_Sofar___str__.binds (ps := ["self"]) fun _ _ _ _ _ _ us hl => match us, hl with | [_], _ => rfl
  obtain ⟨_, ⟨oc_Whole___str__, od_Whole___str__, kV_Whole___str__, dc_Whole___str__, pm_Whole___str__, an_Whole___str__, cd_Whole___str__, ct_Whole___str__, sl_Whole___str__, rfl, l_Whole___str__, d_Whole___str__⟩, k_Whole___str__⟩ := q_Whole___str__
  have F_Whole___str__ := fun_mk (st := m_Whole___str__) l_Whole___str__ d_Whole___str__ k_Whole___str__
  have b_Whole___str__ := F_Whole___str__.binds (ps := ["self"]) fun _ _ _ _ _ _ us hl => match us, hl with | [_], _ => rfl
  obtain ⟨_, ⟨oc_Last___str__, od_Last___str__, kV_Last___str__, dc_Last___str__, pm_Last___str__, an_Last___str__, cd_Last___str__, ct_Last___str__, sl_Last___str__, rfl, l_Last___str__, d_Last___str__⟩, k_Last___str__⟩ := q_Last___str__
  have F_Last___str__ := fun_mk (st := m_Last___str__) l_Last___str__ d_Last___str__ k_Last___str__
  have b_Last___str__ := F_Last___str__.binds (ps := ["self"]) fun _ _ _ _ _ _ us hl => match us, hl with | [_], _ => rfl
  obtain ⟨_, ⟨oc_Same___str__, od_Same___str__, kV_Same___str__, dc_Same___str__, pm_Same___str__, an_Same___str__, cd_Same___str__, ct_Same___str__, sl_Same___str__, rfl, l_Same___str__, d_Same___str__⟩, k_Same___str__⟩ := q_Same___str__
  have F_Same___str__ := fun_mk (st := m_Same___str__) l_Same___str__ d_Same___str__ k_Same___str__
  have b_Same___str__ := F_Same___str__.binds (ps := ["self"]) fun _ _ _ _ _ _ us hl => match us, hl with | [_], _ => rfl
  obtain ⟨_, ⟨oc_Tie___eq__, od_Tie___eq__, kV_Tie___eq__, dc_Tie___eq__, pm_Tie___eq__, an_Tie___eq__, cd_Tie___eq__, ct_Tie___eq__, sl_Tie___eq__, rfl, l_Tie___eq__, d_Tie___eq__⟩, k_Tie___eq__⟩ := q_Tie___eq__
  have F_Tie___eq__ := fun_mk (st := m_Tie___eq__) l_Tie___eq__ d_Tie___eq__ k_Tie___eq__
  have b_Tie___eq__ := F_Tie___eq__.binds (ps := ["self", "other"]) fun _ _ _ _ _ _ us hl => match us, hl with | [_, _], _ => rfl
  obtain ⟨_, ⟨oc__law_tie, od__law_tie, kV__law_tie, dc__law_tie, pm__law_tie, an__law_tie, cd__law_tie, ct__law_tie, sl__law_tie, rfl, l__law_tie, d__law_tie⟩, k__law_tie⟩ := q__law_tie
  have F__law_tie := fun_mk (st := s__law_tie) l__law_tie d__law_tie k__law_tie
  have b__law_tie := F__law_tie.binds (ps := ["_law_plain_here"]) fun _ _ _ _ _ _ us hl => match us, hl with | [_], _ => rfl
  obtain ⟨_, ⟨oc__law_plain, od__law_plain, kV__law_plain, dc__law_plain, pm__law_plain, an__law_plain, cd__law_plain, ct__law_plain, sl__law_plain, rfl, l__law_plain, d__law_plain⟩, k__law_plain⟩ := q__law_plain
  have F__law_plain := fun_mk (st := s__law_plain) l__law_plain d__law_plain k__law_plain
  have b__law_plain := F__law_plain.binds (ps := ["_law_pen_here", "_law_labels"]) fun _ _ _ _ _ _ us hl => match us, hl with | [_, _], _ => rfl
  obtain ⟨_, ⟨oc_take_tie, od_take_tie, kV_take_tie, dc_take_tie, pm_take_tie, an_take_tie, cd_take_tie, ct_take_tie, sl_take_tie, rfl, l_take_tie, d_take_tie⟩, k_take_tie⟩ := q_take_tie
  have F_take_tie := fun_mk (st := s_take_tie) l_take_tie d_take_tie k_take_tie
  have b_take_tie := F_take_tie.binds (ps := ["words"]) fun _ _ _ _ _ _ us hl => match us, hl with | [_], _ => rfl
  obtain ⟨_, ⟨oc_Tie_read, od_Tie_read, kV_Tie_read, dc_Tie_read, pm_Tie_read, an_Tie_read, cd_Tie_read, ct_Tie_read, sl_Tie_read, rfl, l_Tie_read, d_Tie_read⟩, k_Tie_read⟩ := q_Tie_read
  have F_Tie_read := fun_mk (st := m_Tie_read) l_Tie_read d_Tie_read k_Tie_read
  have b_Tie_read := F_Tie_read.binds (ps := ["cls", "text"]) fun _ _ _ _ _ _ us hl => match us, hl with | [_, _], _ => rfl
  obtain ⟨_, ⟨oc__law_heard, od__law_heard, kV__law_heard, dc__law_heard, pm__law_heard, an__law_heard, cd__law_heard, ct__law_heard, sl__law_heard, rfl, l__law_heard, d__law_heard⟩, k__law_heard⟩ := q__law_heard
  have F__law_heard := fun_mk (st := s__law_heard) l__law_heard d__law_heard k__law_heard
  have b__law_heard := F__law_heard.binds (ps := ["_law_ask"]) fun _ _ _ _ _ _ us hl => match us, hl with | [_], _ => rfl
  obtain ⟨_, ⟨oc__law_wrong, od__law_wrong, kV__law_wrong, dc__law_wrong, pm__law_wrong, an__law_wrong, cd__law_wrong, ct__law_wrong, sl__law_wrong, rfl, l__law_wrong, d__law_wrong⟩, k__law_wrong⟩ := q__law_wrong
  have F__law_wrong := fun_mk (st := s__law_wrong) l__law_wrong d__law_wrong k__law_wrong
  have b__law_wrong := F__law_wrong.binds (ps := ["_law_words_so"]) fun _ _ _ _ _ _ us hl => match us, hl with | [_], _ => rfl
  obtain ⟨_, ⟨oc__law_bent, od__law_bent, kV__law_bent, dc__law_bent, pm__law_bent, an__law_bent, cd__law_bent, ct__law_bent, sl__law_bent, rfl, l__law_bent, d__law_bent⟩, k__law_bent⟩ := q__law_bent
  have F__law_bent := fun_mk (st := s__law_bent) l__law_bent d__law_bent k__law_bent
  have b__law_bent := F__law_bent.binds (ps := ["_law_pen_here", "_law_line_so"]) fun _ _ _ _ _ _ us hl => match us, hl with | [_, _], _ => rfl
  obtain ⟨_, ⟨oc_law, od_law, kV_law, dc_law, pm_law, an_law, cd_law, ct_law, sl_law, rfl, l_law, d_law⟩, k_law⟩ := q_law
  have ec_law := codeA_eq (fun_mk (st := s_law) l_law d_law k_law) _ _ _ _ l_law
  dsimp only [PySem.W.fnOf] at ec_law
  subst ec_law
  have F_law := fun_mk (st := s_law) l_law d_law k_law
  refine ⟨PySem.W.fnOf "law" "law" (defArgs s_law) (defBody s_law) (defScope s_law) .none kV_law dc_law pm_law an_law (.ref (codeA K f_law)) ct_law, [(codeA K f_law, P_law, ("law" ++ ".<locals>." ++ "<lambda>" : Str))], ?_, tnd, fun s v => .of_eq rfl, fun base _ _ TB => ?_⟩
  · intro p hp
    simp only [List.mem_cons, List.not_mem_nil, or_false] at hp
    subst hp
    exact ⟨tm_law, th_law⟩
  let M : Md := ⟨P, w, K, mg, base⟩
  have B : Bi M.mg := B
  have LA_law : ∀ base : Heap, (∀ p ∈ ([(codeA K f_law, P_law, ("law" ++ ".<locals>." ++ "<lambda>" : Str))] : List (Addr × Addr × Str)), LamX.TabB base mg p.1 p.2.1) → LamAt ⟨P, w, K, mg, base⟩ f_law (codeA K f_law) P_law := fun base TB => ⟨fun oc od fd osl z => by
    have z2 := (show K.lookup f_law = _ from z).symm.trans l_law
    cases z2
    rfl, TB (codeA K f_law, P_law, ("law" ++ ".<locals>." ++ "<lambda>" : Str)) (by simp)⟩
  have h__law_pen : Ent M 1 "_law_pen" (TPen) := ⟨f__law_pen, PySem.W.mg_of X G a__law_pen, (pen_ok F__law_pen B : FnG M 1 _ _ _ _).df0 k__law_pen b__law_pen⟩
  have h__law_draw : Ent M 1 "_law_draw" (TDraw) := ⟨f__law_draw, PySem.W.mg_of X G a__law_draw, (draw_ok F__law_draw B : FnG M 1 _ _ _ _).df0 k__law_draw b__law_draw⟩
  have h__law_pick : Ent M 3 "_law_pick" (TPick) := ⟨f__law_pick, PySem.W.mg_of X G a__law_pick, (pick_ok F__law_pick B h__law_draw : FnG M 3 _ _ _ _).df0 k__law_pick b__law_pick⟩
  have h_is_integer : Ent M 1 "is_integer" (TIsInt) := ⟨f_is_integer, PySem.W.mg_of X G a_is_integer, (is_integer_ok F_is_integer B : FnG M 1 _ _ _ _).df0 k_is_integer b_is_integer⟩
  have h_is_within : Ent M 3 "is_within" (TWithinD) := ⟨f_is_within, PySem.W.mg_of X G a_is_within, (is_within_ok F_is_within B h_is_integer : FnG M 3 _ _ _ _).df0 k_is_within b_is_within⟩
  have i_LETTERS : GS M.mg "LETTERS" lettersS := strB_ok X G v_LETTERS
  have i_MOST_LETTERS : GI M.mg "MOST_LETTERS" 8 := intB_ok X G v_MOST_LETTERS
  have h_is_name : Ent M 1 "is_name" (TIsName) := ⟨f_is_name, PySem.W.mg_of X G a_is_name, (is_name_ok F_is_name B i_LETTERS i_MOST_LETTERS : FnG M 1 _ _ _ _).df0 k_is_name b_is_name⟩
  have g_BadName : M.mg "BadName" = some (.ref c_BadName) := PySem.W.mg_of X G n_BadName
  have XF_BadName : XiF M.P M.K ["self", "value"] "BadName.__init__" m_BadName___init__ f_BadName___init__ cl_BadName _ := ⟨⟨oc_BadName___init__, od_BadName___init__, kV_BadName___init__, dc_BadName___init__, pm_BadName___init__, an_BadName___init__, cd_BadName, ct_BadName___init__, sl_BadName___init__, cc1_BadName, cc2_BadName, cc3_BadName, vs_BadName, file_BadName, tf_BadName, rfl, xl_BadName, xd_BadName, xc_BadName, xv_BadName, xe_BadName⟩, xiS_of (by decide +kernel), ⟨_, rfl, rfl⟩⟩
  have XC_BadName : XiC M.P M.K c_BadName f_BadName___init__ cl_BadName := ⟨⟨⟨nm_BadName, q_BadName, N_BadName, bs_BadName, bm_BadName, sn_BadName, sub_BadName, ab_BadName, col_BadName, dd_BadName, k0_BadName, k1_BadName, k2_BadName, k3_BadName, k5_BadName, xo_BadName, xr_BadName⟩, xs_BadName, xb_BadName, xt_BadName, xk_BadName⟩, xi_BadName, xf_BadName, ⟨cl1_BadName, cl2_BadName, cl3_BadName, xy_BadName⟩, xu_BadName, xw_BadName, xm_BadName, x_opq, b_super, x_top⟩
  have x_BadName : EntX M "BadName" c_BadName ["value"] := entX1 XF_BadName XC_BadName g_BadName (.all fun us hl => match us, hl with | [_, _], _ => rfl) rfl ⟨_, fun _ => rfl⟩ xn_BadName_value (by decide) (by decide) (by decide)
  have r_BadName : ExcK M.K c_BadName := ⟨xcl_BadName, hdi_BadName, xga_BadName, xgg_BadName, xb_BadName, xha_BadName, cl_get, cl_tak, xmo_BadName⟩
  have h_need_name : Ent M 3 "need_name" (TNeedName c_BadName) := ⟨f_need_name, PySem.W.mg_of X G a_need_name, (need_name_ok F_need_name B h_is_name x_BadName : FnG M 3 _ _ _ _).df0 k_need_name b_need_name⟩
  have i_FIGURES : GS M.mg "FIGURES" figuresS := strB_ok X G v_FIGURES
  have i_MOST_FIGURES : GI M.mg "MOST_FIGURES" 60 := intB_ok X G v_MOST_FIGURES
  have h_number_in : Ent M 1 "number_in" (TNumIn) := ⟨f_number_in, PySem.W.mg_of X G a_number_in, (number_in_ok F_number_in B i_FIGURES i_MOST_FIGURES : FnG M 1 _ _ _ _).df0 k_number_in b_number_in⟩
  have g_Words : M.mg "Words" = some (.ref c_Words) := PySem.W.mg_of X G n_Words
  have cl_Words : Cls M.K c_Words := ⟨pg_Words, hd_Words, po_Words, sa_Words⟩
  have na_Words_split_words : NoAttr M.K c_Words "split_words" := nf_Words_split_words
  have na_Words_line_index : NoAttr M.K c_Words "line_index" := nf_Words_line_index
  have na_Words_next_index : NoAttr M.K c_Words "next_index" := nf_Words_next_index
  have g_BadText : M.mg "BadText" = some (.ref c_BadText) := PySem.W.mg_of X G n_BadText
  have XF_BadText : XiF M.P M.K ["self", "line", "word"] "BadText.__init__" m_BadText___init__ f_BadText___init__ cl_BadText _ := ⟨⟨oc_BadText___init__, od_BadText___init__, kV_BadText___init__, dc_BadText___init__, pm_BadText___init__, an_BadText___init__, cd_BadText, ct_BadText___init__, sl_BadText___init__, cc1_BadText, cc2_BadText, cc3_BadText, vs_BadText, file_BadText, tf_BadText, rfl, xl_BadText, xd_BadText, xc_BadText, xv_BadText, xe_BadText⟩, xiS_of (by decide +kernel), ⟨_, rfl, rfl⟩⟩
  have XC_BadText : XiC M.P M.K c_BadText f_BadText___init__ cl_BadText := ⟨⟨⟨nm_BadText, q_BadText, N_BadText, bs_BadText, bm_BadText, sn_BadText, sub_BadText, ab_BadText, col_BadText, dd_BadText, k0_BadText, k1_BadText, k2_BadText, k3_BadText, k5_BadText, xo_BadText, xr_BadText⟩, xs_BadText, xb_BadText, xt_BadText, xk_BadText⟩, xi_BadText, xf_BadText, ⟨cl1_BadText, cl2_BadText, cl3_BadText, xy_BadText⟩, xu_BadText, xw_BadText, xm_BadText, x_opq, b_super, x_top⟩
  have x_BadText : EntX M "BadText" c_BadText ["line", "word"] := entX2 XF_BadText XC_BadText g_BadText (.all fun us hl => match us, hl with | [_, _, _], _ => rfl) rfl ⟨_, fun _ => rfl⟩ xn_BadText_line xn_BadText_word (by decide) (by decide) (by decide) (by decide) (by decide) (by decide) (by decide)
  have r_BadText : ExcK M.K c_BadText := ⟨xcl_BadText, hdi_BadText, xga_BadText, xgg_BadText, xb_BadText, xha_BadText, cl_get, cl_tak, xmo_BadText⟩
  have h_Words___init__ : EntI M 3 c_Words (fun ds O Q E => (TWordsI M.K c_Words c_BadText) (ds ++ ([.int 0] : List D)) O Q E) := ⟨f_Words___init__, ⟨mk_Words, a_Words___init__, i_Words___init__, kc_Words⟩, (df_dfl (dds := [.int 0]) (Words___init___ok F_Words___init__ B x_BadText cl_Words na_Words_split_words na_Words_line_index na_Words_next_index : FnG M 3 _ _ _ _) k_Words___init__ (F_Words___init__.binds1 (ps := ["self", "text", "line"]) 2 0 (by simp) rfl (fun T kV doc pm an cdv ct us its hu hi => match us, its, hu, hi with | [_, _], [_], _, _ => ⟨_, rfl, rfl⟩)) (fun _ _ => reps_cons.mpr ⟨_, _, rfl, rep_int.mpr rfl, reps_nil.mpr rfl⟩)).run⟩
  have h_Words_refuse : EntM M 3 c_Words "refuse" (fun ds O Q E => (TRefuse c_Words c_BadText) (ds ++ ([.non] : List D)) O Q E) := ⟨f_Words_refuse, ⟨a_Words_refuse, i_Words_refuse, k_Words_refuse⟩, df_dfl (dds := [.non]) (Words_refuse_ok F_Words_refuse B x_BadText cl_Words na_Words_split_words na_Words_line_index na_Words_next_index : FnG M 3 _ _ _ _) k_Words_refuse (F_Words_refuse.binds1 (ps := ["self", "index"]) 1 0 (by simp) rfl (fun T kV doc pm an cdv ct us its hu hi => match us, its, hu, hi with | [_], [_], _, _ => ⟨_, rfl, rfl⟩)) (fun _ _ => reps_cons.mpr ⟨_, _, rfl, rep_non.mpr rfl, reps_nil.mpr rfl⟩)⟩
  have h_Words_is_over : EntM M 1 c_Words "is_over" (TIsOver c_Words) := ⟨f_Words_is_over, ⟨a_Words_is_over, i_Words_is_over, k_Words_is_over⟩, (Words_is_over_ok F_Words_is_over B cl_Words na_Words_split_words na_Words_line_index na_Words_next_index : FnG M 1 _ _ _ _).df0 k_Words_is_over b_Words_is_over⟩
  have h_Words_upcoming : EntM M 3 c_Words "upcoming" (TUpc c_Words) := ⟨f_Words_upcoming, ⟨a_Words_upcoming, i_Words_upcoming, k_Words_upcoming⟩, (Words_upcoming_ok F_Words_upcoming B h_Words_is_over cl_Words na_Words_split_words na_Words_line_index na_Words_next_index : FnG M 3 _ _ _ _).df0 k_Words_upcoming b_Words_upcoming⟩
  have h_Words_skip : EntM M 5 c_Words "skip" (TSkip c_Words c_BadText) := ⟨f_Words_skip, ⟨a_Words_skip, i_Words_skip, k_Words_skip⟩, (Words_skip_ok F_Words_skip B h_Words_is_over h_Words_refuse cl_Words na_Words_split_words na_Words_line_index na_Words_next_index : FnG M 5 _ _ _ _).df0 k_Words_skip b_Words_skip⟩
  have h_Words_take_of : EntM M 7 c_Words "take_of" (TTakeOf c_Words c_BadText) := ⟨f_Words_take_of, ⟨a_Words_take_of, i_Words_take_of, k_Words_take_of⟩, (Words_take_of_ok F_Words_take_of B h_Words_upcoming h_Words_refuse h_Words_skip cl_Words na_Words_split_words na_Words_line_index na_Words_next_index : FnG M 7 _ _ _ _).df0 k_Words_take_of b_Words_take_of⟩
  have h_Words_take_name : EntM M 7 c_Words "take_name" (TTakeNm c_Words c_BadText) := ⟨f_Words_take_name, ⟨a_Words_take_name, i_Words_take_name, k_Words_take_name⟩, (Words_take_name_ok F_Words_take_name B h_is_name h_Words_upcoming h_Words_refuse h_Words_skip cl_Words na_Words_split_words na_Words_line_index na_Words_next_index : FnG M 7 _ _ _ _).df0 k_Words_take_name b_Words_take_name⟩
  have h_Words_take_number : EntM M 7 c_Words "take_number" (fun ds O Q E => (TTakeN c_Words c_BadText) (ds ++ ([] : List D)) O Q E) := ⟨f_Words_take_number, ⟨a_Words_take_number, i_Words_take_number, k_Words_take_number⟩, df_dfl (dds := []) (Words_take_number_ok F_Words_take_number B h_number_in h_Words_upcoming h_Words_refuse h_Words_skip cl_Words na_Words_split_words na_Words_line_index na_Words_next_index : FnG M 7 _ _ _ _) k_Words_take_number (F_Words_take_number.binds1 (ps := ["self", "least", "most"]) 3 1 (by simp) rfl (fun T kV doc pm an cdv ct us its hu hi => match us, its, hu, hi with | [_, _, _], [_], _, _ => ⟨_, rfl, rfl⟩)) (fun _ _ => reps_nil.mpr rfl)⟩
  have h_Words_close : EntM M 5 c_Words "close" (TClose c_Words c_BadText) := ⟨f_Words_close, ⟨a_Words_close, i_Words_close, k_Words_close⟩, (Words_close_ok F_Words_close B h_Words_is_over h_Words_refuse cl_Words na_Words_split_words na_Words_line_index na_Words_next_index : FnG M 5 _ _ _ _).df0 k_Words_close b_Words_close⟩
  have g_Tie : M.mg "Tie" = some (.ref c_Tie) := PySem.W.mg_of X G n_Tie
  have g_Numbered : M.mg "Numbered" = some (.ref c_Numbered) := PySem.W.mg_of X G n_Numbered
  have g_Back : M.mg "Back" = some (.ref c_Back) := PySem.W.mg_of X G n_Back
  have cl_Back : Cls M.K c_Back := ⟨pg_Back, hd_Back, po_Back, sa_Back⟩
  have na_Back_source : NoAttr M.K c_Back "source" := nf_Back_source
  have na_Back_number : NoAttr M.K c_Back "number" := nf_Back_number
  have g_Ahead : M.mg "Ahead" = some (.ref c_Ahead) := PySem.W.mg_of X G n_Ahead
  have cl_Ahead : Cls M.K c_Ahead := ⟨pg_Ahead, hd_Ahead, po_Ahead, sa_Ahead⟩
  have na_Ahead_source : NoAttr M.K c_Ahead "source" := nf_Ahead_source
  have na_Ahead_number : NoAttr M.K c_Ahead "number" := nf_Ahead_number
  have g_Sofar : M.mg "Sofar" = some (.ref c_Sofar) := PySem.W.mg_of X G n_Sofar
  have cl_Sofar : Cls M.K c_Sofar := ⟨pg_Sofar, hd_Sofar, po_Sofar, sa_Sofar⟩
  have na_Sofar_source : NoAttr M.K c_Sofar "source" := nf_Sofar_source
  have g_Whole : M.mg "Whole" = some (.ref c_Whole) := PySem.W.mg_of X G n_Whole
  have cl_Whole : Cls M.K c_Whole := ⟨pg_Whole, hd_Whole, po_Whole, sa_Whole⟩
  have na_Whole_source : NoAttr M.K c_Whole "source" := nf_Whole_source
  have g_Last : M.mg "Last" = some (.ref c_Last) := PySem.W.mg_of X G n_Last
  have cl_Last : Cls M.K c_Last := ⟨pg_Last, hd_Last, po_Last, sa_Last⟩
  have na_Last_source : NoAttr M.K c_Last "source" := nf_Last_source
  have g_Same : M.mg "Same" = some (.ref c_Same) := PySem.W.mg_of X G n_Same
  have cl_Same : Cls M.K c_Same := ⟨pg_Same, hd_Same, po_Same, sa_Same⟩
  have na_Same_source : NoAttr M.K c_Same "source" := nf_Same_source
  have h_Sofar___init__ : EntI M 5 c_Sofar (TTieI M.K c_BadName) := ⟨f_Tie___init__, ⟨mk_Sofar, a_Sofar___init__, i_Tie___init__, kc_Sofar⟩, ((Tie___init___ok F_Tie___init__ B h_need_name : FnG M 5 _ _ _ _).df0 k_Tie___init__ b_Tie___init__).run⟩
  have h_Whole___init__ : EntI M 5 c_Whole (TTieI M.K c_BadName) := ⟨f_Tie___init__, ⟨mk_Whole, a_Whole___init__, i_Tie___init__, kc_Whole⟩, ((Tie___init___ok F_Tie___init__ B h_need_name : FnG M 5 _ _ _ _).df0 k_Tie___init__ b_Tie___init__).run⟩
  have h_Last___init__ : EntI M 5 c_Last (TTieI M.K c_BadName) := ⟨f_Tie___init__, ⟨mk_Last, a_Last___init__, i_Tie___init__, kc_Last⟩, ((Tie___init___ok F_Tie___init__ B h_need_name : FnG M 5 _ _ _ _).df0 k_Tie___init__ b_Tie___init__).run⟩
  have h_Same___init__ : EntI M 5 c_Same (TTieI M.K c_BadName) := ⟨f_Tie___init__, ⟨mk_Same, a_Same___init__, i_Tie___init__, kc_Same⟩, ((Tie___init___ok F_Tie___init__ B h_need_name : FnG M 5 _ _ _ _).df0 k_Tie___init__ b_Tie___init__).run⟩
  have u_Tie___init__ : EntU M 5 c_Tie "__init__" (TTieI M.K c_BadName) := ⟨f_Tie___init__, .type "type", ⟨crd_Tie, cga_Tie⟩, u_Tie___init__, (Tie___init___ok F_Tie___init__ B h_need_name : FnG M 5 _ _ _ _).df0 k_Tie___init__ b_Tie___init__⟩
  have u_Numbered___init__ : EntU M 1 c_Numbered "__init__" (TNumbI M.K) := ⟨f_Numbered___init__, .type "type", ⟨crd_Numbered, cga_Numbered⟩, u_Numbered___init__, (Numbered___init___ok F_Numbered___init__ B : FnG M 1 _ _ _ _).df0 k_Numbered___init__ b_Numbered___init__⟩
  have g_BadNumber : M.mg "BadNumber" = some (.ref c_BadNumber) := PySem.W.mg_of X G n_BadNumber
  have XF_BadNumber : XiF M.P M.K ["self", "value"] "BadNumber.__init__" m_BadNumber___init__ f_BadNumber___init__ cl_BadNumber _ := ⟨⟨oc_BadNumber___init__, od_BadNumber___init__, kV_BadNumber___init__, dc_BadNumber___init__, pm_BadNumber___init__, an_BadNumber___init__, cd_BadNumber, ct_BadNumber___init__, sl_BadNumber___init__, cc1_BadNumber, cc2_BadNumber, cc3_BadNumber, vs_BadNumber, file_BadNumber, tf_BadNumber, rfl, xl_BadNumber, xd_BadNumber, xc_BadNumber, xv_BadNumber, xe_BadNumber⟩, xiS_of (by decide +kernel), ⟨_, rfl, rfl⟩⟩
  have XC_BadNumber : XiC M.P M.K c_BadNumber f_BadNumber___init__ cl_BadNumber := ⟨⟨⟨nm_BadNumber, q_BadNumber, N_BadNumber, bs_BadNumber, bm_BadNumber, sn_BadNumber, sub_BadNumber, ab_BadNumber, col_BadNumber, dd_BadNumber, k0_BadNumber, k1_BadNumber, k2_BadNumber, k3_BadNumber, k5_BadNumber, xo_BadNumber, xr_BadNumber⟩, xs_BadNumber, xb_BadNumber, xt_BadNumber, xk_BadNumber⟩, xi_BadNumber, xf_BadNumber, ⟨cl1_BadNumber, cl2_BadNumber, cl3_BadNumber, xy_BadNumber⟩, xu_BadNumber, xw_BadNumber, xm_BadNumber, x_opq, b_super, x_top⟩
  have x_BadNumber : EntX M "BadNumber" c_BadNumber ["value"] := entX1 XF_BadNumber XC_BadNumber g_BadNumber (.all fun us hl => match us, hl with | [_, _], _ => rfl) rfl ⟨_, fun _ => rfl⟩ xn_BadNumber_value (by decide) (by decide) (by decide)
  have r_BadNumber : ExcK M.K c_BadNumber := ⟨xcl_BadNumber, hdi_BadNumber, xga_BadNumber, xgg_BadNumber, xb_BadNumber, xha_BadNumber, cl_get, cl_tak, xmo_BadNumber⟩
  have i_MOST_OFFSET : GI M.mg "MOST_OFFSET" 60 := intB_ok X G v_MOST_OFFSET
  have h_Back___init__ : EntI M 8 c_Back (TNumI c_Back c_BadName c_BadNumber 0) := ⟨f_Back___init__, ⟨mk_Back, a_Back___init__, i_Back___init__, kc_Back⟩, ((Back___init___ok F_Back___init__ B h_is_within u_Tie___init__ u_Numbered___init__ x_BadNumber i_MOST_OFFSET g_Tie g_Numbered cl_Back na_Back_source na_Back_number : FnG M 8 _ _ _ _).df0 k_Back___init__ b_Back___init__).run⟩
  have h_Ahead___init__ : EntI M 8 c_Ahead (TNumI c_Ahead c_BadName c_BadNumber 1) := ⟨f_Ahead___init__, ⟨mk_Ahead, a_Ahead___init__, i_Ahead___init__, kc_Ahead⟩, ((Ahead___init___ok F_Ahead___init__ B h_is_within u_Tie___init__ u_Numbered___init__ x_BadNumber i_MOST_OFFSET g_Tie g_Numbered cl_Ahead na_Ahead_source na_Ahead_number : FnG M 8 _ _ _ _).df0 k_Ahead___init__ b_Ahead___init__).run⟩
  have h_Back___str__ : EntM M 1 c_Back "__str__" (TStrT (TA.mk c_Back c_Ahead c_Sofar c_Whole c_Last c_Same) .back) := ⟨f_Back___str__, ⟨a_Back___str__, i_Back___str__, k_Back___str__⟩, (Back___str___ok F_Back___str__ B cl_Back na_Back_source na_Back_number : FnG M 1 _ _ _ _).df0 k_Back___str__ b_Back___str__⟩
  have h_Ahead___str__ : EntM M 1 c_Ahead "__str__" (TStrT (TA.mk c_Back c_Ahead c_Sofar c_Whole c_Last c_Same) .ahead) := ⟨f_Ahead___str__, ⟨a_Ahead___str__, i_Ahead___str__, k_Ahead___str__⟩, (Ahead___str___ok F_Ahead___str__ B cl_Ahead na_Ahead_source na_Ahead_number : FnG M 1 _ _ _ _).df0 k_Ahead___str__ b_Ahead___str__⟩
  have h_Sofar___str__ : EntM M 1 c_Sofar "__str__" (TStrT (TA.mk c_Back c_Ahead c_Sofar c_Whole c_Last c_Same) .sofar) := ⟨f_Sofar___str__, ⟨a_Sofar___str__, i_Sofar___str__, k_Sofar___str__⟩, (Sofar___str___ok F_Sofar___str__ B cl_Sofar na_Sofar_source : FnG M 1 _ _ _ _).df0 k_Sofar___str__ b_Sofar___str__⟩
  have h_Whole___str__ : EntM M 1 c_Whole "__str__" (TStrT (TA.mk c_Back c_Ahead c_Sofar c_Whole c_Last c_Same) .whole) := ⟨f_Whole___str__, ⟨a_Whole___str__, i_Whole___str__, k_Whole___str__⟩, (Whole___str___ok F_Whole___str__ B cl_Whole na_Whole_source : FnG M 1 _ _ _ _).df0 k_Whole___str__ b_Whole___str__⟩
  have h_Last___str__ : EntM M 1 c_Last "__str__" (TStrT (TA.mk c_Back c_Ahead c_Sofar c_Whole c_Last c_Same) .last) := ⟨f_Last___str__, ⟨a_Last___str__, i_Last___str__, k_Last___str__⟩, (Last___str___ok F_Last___str__ B cl_Last na_Last_source : FnG M 1 _ _ _ _).df0 k_Last___str__ b_Last___str__⟩
  have h_Same___str__ : EntM M 1 c_Same "__str__" (TStrT (TA.mk c_Back c_Ahead c_Sofar c_Whole c_Last c_Same) .same) := ⟨f_Same___str__, ⟨a_Same___str__, i_Same___str__, k_Same___str__⟩, (Same___str___ok F_Same___str__ B cl_Same na_Same_source : FnG M 1 _ _ _ _).df0 k_Same___str__ b_Same___str__⟩
  have h_str : ∀ k, EntM M 1 (TA.c (TA.mk c_Back c_Ahead c_Sofar c_Whole c_Last c_Same) k) "__str__" (TStrT (TA.mk c_Back c_Ahead c_Sofar c_Whole c_Last c_Same) k) := fun k => match k with | .back => h_Back___str__ | .ahead => h_Ahead___str__ | .sofar => h_Sofar___str__ | .whole => h_Whole___str__ | .last => h_Last___str__ | .same => h_Same___str__
  have h_cl : ∀ k, Cls M.K (TA.c (TA.mk c_Back c_Ahead c_Sofar c_Whole c_Last c_Same) k) := fun k => match k with | .back => cl_Back | .ahead => cl_Ahead | .sofar => cl_Sofar | .whole => cl_Whole | .last => cl_Last | .same => cl_Same
  have h_ty : ∀ k O s n, TyD M.K O (tieD (TA.mk c_Back c_Ahead c_Sofar c_Whole c_Last c_Same) k s n) (.ref (TA.c (TA.mk c_Back c_Ahead c_Sofar c_Whole c_Last c_Same) k)) := fun k O s n => match k with | .back => .ins .ins cl_Back ha_Back cl_get cl_tak mo_Back | .ahead => .ins .ins cl_Ahead ha_Ahead cl_get cl_tak mo_Ahead | .sofar => .ins .ins cl_Sofar ha_Sofar cl_get cl_tak mo_Sofar | .whole => .ins .ins cl_Whole ha_Whole cl_get cl_tak mo_Whole | .last => .ins .ins cl_Last ha_Last cl_get cl_tak mo_Last | .same => .ins .ins cl_Same ha_Same cl_get cl_tak mo_Same
  have h_kt : ∀ k, PySem.W.kitOne M.K (.ref (TA.c (TA.mk c_Back c_Ahead c_Sofar c_Whole c_Last c_Same) k)) (.ref c_Tie) = some true := fun k => match k with | .back => kt1_Back | .ahead => kt1_Ahead | .sofar => kt1_Sofar | .whole => kt1_Whole | .last => kt1_Last | .same => kt1_Same
  have h_kn : ∀ d n, D.tyN d = some n → PySem.W.kitOne M.K (.type n) (.ref c_Tie) = some false := fun d n h => by cases d <;> simp only [D.tyN, Option.some.injEq, reduceCtorEq] at h <;> subst h <;> assumption
  have h_Back___eq__ : EntM M 5 c_Back "__eq__" (TEqT (TA.mk c_Back c_Ahead c_Sofar c_Whole c_Last c_Same)) := ⟨f_Tie___eq__, ⟨a_Back___eq__, i_Tie___eq__, k_Tie___eq__⟩, (Tie___eq___ok F_Tie___eq__ B h_str h_cl h_ty h_kt h_kn g_Tie : FnG M 5 _ _ _ _).df0 k_Tie___eq__ b_Tie___eq__⟩
  have h_Ahead___eq__ : EntM M 5 c_Ahead "__eq__" (TEqT (TA.mk c_Back c_Ahead c_Sofar c_Whole c_Last c_Same)) := ⟨f_Tie___eq__, ⟨a_Ahead___eq__, i_Tie___eq__, k_Tie___eq__⟩, (Tie___eq___ok F_Tie___eq__ B h_str h_cl h_ty h_kt h_kn g_Tie : FnG M 5 _ _ _ _).df0 k_Tie___eq__ b_Tie___eq__⟩
  have h_Sofar___eq__ : EntM M 5 c_Sofar "__eq__" (TEqT (TA.mk c_Back c_Ahead c_Sofar c_Whole c_Last c_Same)) := ⟨f_Tie___eq__, ⟨a_Sofar___eq__, i_Tie___eq__, k_Tie___eq__⟩, (Tie___eq___ok F_Tie___eq__ B h_str h_cl h_ty h_kt h_kn g_Tie : FnG M 5 _ _ _ _).df0 k_Tie___eq__ b_Tie___eq__⟩
  have h_Whole___eq__ : EntM M 5 c_Whole "__eq__" (TEqT (TA.mk c_Back c_Ahead c_Sofar c_Whole c_Last c_Same)) := ⟨f_Tie___eq__, ⟨a_Whole___eq__, i_Tie___eq__, k_Tie___eq__⟩, (Tie___eq___ok F_Tie___eq__ B h_str h_cl h_ty h_kt h_kn g_Tie : FnG M 5 _ _ _ _).df0 k_Tie___eq__ b_Tie___eq__⟩
  have h_Last___eq__ : EntM M 5 c_Last "__eq__" (TEqT (TA.mk c_Back c_Ahead c_Sofar c_Whole c_Last c_Same)) := ⟨f_Tie___eq__, ⟨a_Last___eq__, i_Tie___eq__, k_Tie___eq__⟩, (Tie___eq___ok F_Tie___eq__ B h_str h_cl h_ty h_kt h_kn g_Tie : FnG M 5 _ _ _ _).df0 k_Tie___eq__ b_Tie___eq__⟩
  have h_Same___eq__ : EntM M 5 c_Same "__eq__" (TEqT (TA.mk c_Back c_Ahead c_Sofar c_Whole c_Last c_Same)) := ⟨f_Tie___eq__, ⟨a_Same___eq__, i_Tie___eq__, k_Tie___eq__⟩, (Tie___eq___ok F_Tie___eq__ B h_str h_cl h_ty h_kt h_kn g_Tie : FnG M 5 _ _ _ _).df0 k_Tie___eq__ b_Tie___eq__⟩
  have h_eq : ∀ k, EntM M 5 (TA.c (TA.mk c_Back c_Ahead c_Sofar c_Whole c_Last c_Same) k) "__eq__" (TEqT (TA.mk c_Back c_Ahead c_Sofar c_Whole c_Last c_Same)) := fun k => match k with | .back => h_Back___eq__ | .ahead => h_Ahead___eq__ | .sofar => h_Sofar___eq__ | .whole => h_Whole___eq__ | .last => h_Last___eq__ | .same => h_Same___eq__
  have h_ek : ∀ k, EqK M.K (TA.c (TA.mk c_Back c_Ahead c_Sofar c_Whole c_Last c_Same) k) := fun k => match k with | .back => ⟨ne_Back, mo_Back⟩ | .ahead => ⟨ne_Ahead, mo_Ahead⟩ | .sofar => ⟨ne_Sofar, mo_Sofar⟩ | .whole => ⟨ne_Whole, mo_Whole⟩ | .last => ⟨ne_Last, mo_Last⟩ | .same => ⟨ne_Same, mo_Same⟩
  have h_nf : ∀ k k2, PySem.W.notFirst M.K (TA.c (TA.mk c_Back c_Ahead c_Sofar c_Whole c_Last c_Same) k) (.ref (TA.c (TA.mk c_Back c_Ahead c_Sofar c_Whole c_Last c_Same) k2)) = true := fun k k2 => match k, k2 with | .back, .back => nf_Back_Back | .back, .ahead => nf_Back_Ahead | .back, .sofar => nf_Back_Sofar | .back, .whole => nf_Back_Whole | .back, .last => nf_Back_Last | .back, .same => nf_Back_Same | .ahead, .back => nf_Ahead_Back | .ahead, .ahead => nf_Ahead_Ahead | .ahead, .sofar => nf_Ahead_Sofar | .ahead, .whole => nf_Ahead_Whole | .ahead, .last => nf_Ahead_Last | .ahead, .same => nf_Ahead_Same | .sofar, .back => nf_Sofar_Back | .sofar, .ahead => nf_Sofar_Ahead | .sofar, .sofar => nf_Sofar_Sofar | .sofar, .whole => nf_Sofar_Whole | .sofar, .last => nf_Sofar_Last | .sofar, .same => nf_Sofar_Same | .whole, .back => nf_Whole_Back | .whole, .ahead => nf_Whole_Ahead | .whole, .sofar => nf_Whole_Sofar | .whole, .whole => nf_Whole_Whole | .whole, .last => nf_Whole_Last | .whole, .same => nf_Whole_Same | .last, .back => nf_Last_Back | .last, .ahead => nf_Last_Ahead | .last, .sofar => nf_Last_Sofar | .last, .whole => nf_Last_Whole | .last, .last => nf_Last_Last | .last, .same => nf_Last_Same | .same, .back => nf_Same_Back | .same, .ahead => nf_Same_Ahead | .same, .sofar => nf_Same_Sofar | .same, .whole => nf_Same_Whole | .same, .last => nf_Same_Last | .same, .same => nf_Same_Same
  have h__law_tie : Ent M 11 "_law_tie" (TTie (TA.mk c_Back c_Ahead c_Sofar c_Whole c_Last c_Same)) := ⟨f__law_tie, PySem.W.mg_of X G a__law_tie, (_law_tie_ok F__law_tie B h_Back___init__ h_Ahead___init__ h_Sofar___init__ h_Whole___init__ h_Last___init__ h_Same___init__ g_Back g_Ahead g_Sofar g_Whole g_Last g_Same cl_Sofar cl_Whole cl_Last cl_Same na_Sofar_source na_Whole_source na_Last_source na_Same_source : FnG M 11 _ _ _ _).df0 k__law_tie b__law_tie⟩
  have h__law_plain : Ent M 5 "_law_plain" (TPlain) := ⟨f__law_plain, PySem.W.mg_of X G a__law_plain, (_law_plain_ok F__law_plain B h__law_draw h__law_pick : FnG M 5 _ _ _ _).df0 k__law_plain b__law_plain⟩
  have gt_TIE_WORDS : GT M.K M.mg "TIE_WORDS" (.ktup (kdL.map .str)) := strsB_ok X G v_TIE_WORDS
  have i_MOST_OFFSET : GI M.mg "MOST_OFFSET" 60 := intB_ok X G v_MOST_OFFSET
  have h_take_tie : Ent M 11 "take_tie" (TTakeTie (TA.mk c_Back c_Ahead c_Sofar c_Whole c_Last c_Same) c_Words c_BadText) := ⟨f_take_tie, PySem.W.mg_of X G a_take_tie, (take_tie_ok F_take_tie B gt_TIE_WORDS i_MOST_OFFSET h_Words_take_of h_Words_take_number h_Words_take_name cl_Words h_Back___init__ h_Ahead___init__ h_Sofar___init__ h_Whole___init__ h_Last___init__ h_Same___init__ g_Back g_Ahead g_Sofar g_Whole g_Last g_Same cl_Sofar cl_Whole cl_Last cl_Same na_Sofar_source na_Whole_source na_Last_source na_Same_source : FnG M 11 _ _ _ _).df0 k_take_tie b_take_tie⟩
  have h_Tie_read : EntC M 13 c_Tie "read" (TReadT M.K (TA.mk c_Back c_Ahead c_Sofar c_Whole c_Last c_Same) c_Tie c_BadText) := ⟨.type "type", p_Tie_read, f_Tie_read, ⟨crd_Tie, cga_Tie⟩, ⟨a_Tie_read, ⟨_, r_Tie_read⟩, n_Tie_read⟩, (Tie_read_ok F_Tie_read B h_Words___init__ g_Words h_take_tie h_Words_close cl_Words : FnG M 13 _ _ _ _).df0 k_Tie_read b_Tie_read⟩
  have hk_Tie_read : EntCK M 13 c_Tie "read" ["text"] (TReadT M.K (TA.mk c_Back c_Ahead c_Sofar c_Whole c_Last c_Same) c_Tie c_BadText) := ⟨.type "type", p_Tie_read, f_Tie_read, ⟨crd_Tie, cga_Tie⟩, ⟨a_Tie_read, ⟨_, r_Tie_read⟩, n_Tie_read⟩, (Tie_read_ok F_Tie_read B h_Words___init__ g_Words h_take_tie h_Words_close cl_Words : FnG M 13 _ _ _ _).dfk k_Tie_read fun s us ws hl hw => match us, ws, hl, hw with | [_], [_], _, _ => .of_eq rfl⟩
  have g_DayError : M.mg "DayError" = some (.ref c_DayError) := PySem.W.mg_of X G n_DayError
  have XF_BadText : XiF M.P M.K ["self", "line", "word"] "BadText.__init__" m_BadText___init__ f_BadText___init__ cl_BadText _ := ⟨⟨oc_BadText___init__, od_BadText___init__, kV_BadText___init__, dc_BadText___init__, pm_BadText___init__, an_BadText___init__, cd_BadText, ct_BadText___init__, sl_BadText___init__, cc1_BadText, cc2_BadText, cc3_BadText, vs_BadText, file_BadText, tf_BadText, rfl, xl_BadText, xd_BadText, xc_BadText, xv_BadText, xe_BadText⟩, xiS_of (by decide +kernel), ⟨_, rfl, rfl⟩⟩
  have XC_BadText : XiC M.P M.K c_BadText f_BadText___init__ cl_BadText := ⟨⟨⟨nm_BadText, q_BadText, N_BadText, bs_BadText, bm_BadText, sn_BadText, sub_BadText, ab_BadText, col_BadText, dd_BadText, k0_BadText, k1_BadText, k2_BadText, k3_BadText, k5_BadText, xo_BadText, xr_BadText⟩, xs_BadText, xb_BadText, xt_BadText, xk_BadText⟩, xi_BadText, xf_BadText, ⟨cl1_BadText, cl2_BadText, cl3_BadText, xy_BadText⟩, xu_BadText, xw_BadText, xm_BadText, x_opq, b_super, x_top⟩
  have x_BadText : EntX M "BadText" c_BadText ["line", "word"] := entX2 XF_BadText XC_BadText g_BadText (.all fun us hl => match us, hl with | [_, _, _], _ => rfl) rfl ⟨_, fun _ => rfl⟩ xn_BadText_line xn_BadText_word (by decide) (by decide) (by decide) (by decide) (by decide) (by decide) (by decide)
  have r_BadText : ExcK M.K c_BadText := ⟨xcl_BadText, hdi_BadText, xga_BadText, xgg_BadText, xb_BadText, xha_BadText, cl_get, cl_tak, xmo_BadText⟩
  have xm_BadText : PySem.W.exmOne M.K (.ref c_BadText) (.ref c_DayError) = some true := xm1_BadText
  have kx_BadText : PySem.W.kitOne M.K (.ref c_BadText) (.ref c_BadText) = some true := kx1_BadText
  have xf_BadText_line : PySem.W.findIn M.K (.ref c_BadText) "line" = some none := xn_BadText_line
  have xf_BadText_word : PySem.W.findIn M.K (.ref c_BadText) "word" = some none := xn_BadText_word
  have h__law_heard : EntH M 7 "_law_heard" (fun d r => r = .lst [d]) (fun x r => ∃ j : Nat, x = badT c_BadText j ∧ r = .tup [.str "text", .int 0, .int (j : Int)]) := ⟨f__law_heard, s__law_heard, _, n__law_heard, ["_law_ask", "_law_caught", "_law_found", "error"], ["DayError", "isinstance", "BadText"], "_law_ask", PySem.W.mg_of X G a__law_heard, F__law_heard, sc__law_heard, by simp, b__law_heard, _law_heard_ok B g_DayError g_BadText r_BadText xm_BadText kx_BadText xf_BadText_line xf_BadText_word⟩
  have h__law_wrong : Ent M 1 "_law_wrong" (TWrong) := ⟨f__law_wrong, PySem.W.mg_of X G a__law_wrong, (_law_wrong_ok F__law_wrong B : FnG M 1 _ _ _ _).df0 k__law_wrong b__law_wrong⟩
  have h__law_bent : Ent M 6 "_law_bent" (TBent) := ⟨f__law_bent, PySem.W.mg_of X G a__law_bent, (_law_bent_ok F__law_bent B h__law_draw h__law_pick : FnG M 6 _ _ _ _).df0 k__law_bent b__law_bent⟩
  have h_ks : ∀ k, PySem.W.kitOne M.K (.ref (TA.c (TA.mk c_Back c_Ahead c_Sofar c_Whole c_Last c_Same) k)) (.type "str") = some false := fun k => match k with | .back => ks_Back | .ahead => ks_Ahead | .sofar => ks_Sofar | .whole => ks_Whole | .last => ks_Last | .same => ks_Same
  exact law_ok F_law (LA_law base TB) B h__law_pen h__law_draw h__law_pick h__law_plain h__law_tie h__law_wrong h__law_heard h__law_bent h_Tie_read hk_Tie_read h_str h_cl h_ty h_eq h_ek h_nf g_Tie g_Last h_Last___init__ cl_Last na_Last_source h_ks
end K20
open PySem PySem.W PySem.Calls PyProof.Rows
set_option maxRecDepth 100000 in
set_option maxHeartbeats 0 in
theorem PySem.Challenge.cw_remadedays_k20_ties_written_and_read_holds : PySem.Challenge.rw_remadedays_k20_ties_written_and_read.Holds := by
  w_on; o_law
  refine HandSHeadRun.head_any (r := OpenLaw.row PySem.Challenge.rw_remadedays_k20_ties_written_and_read) (q := view (OpenLaw.row PySem.Challenge.rw_remadedays_k20_ties_written_and_read).prog [39]) (H := K20.Z.hook) (ob := K20.Z.ob) (M := 200000) (loose := K20.nms) (d := HandSHeadRun.topDef (OpenLaw.row PySem.Challenge.rw_remadedays_k20_ties_written_and_read).prog 39) (kwd := []) K20.Z.ob_eq
    (by kernel_rfl) (fun s => by kernel_rfl) K20.run (by kernel_rfl) (by kernel_rfl) (by kernel_rfl) (by rfl) (by first | assumption | decide +kernel) (by decide +kernel) ⟨rfl, rfl, rfl, rfl, rfl, by decide +kernel⟩ ?hw ?hc
  case hw => w_witness2
  case hc =>
    refine DL.walk_HT (Z := K20.Z) (l := PySem.Challenge.rw_remadedays_k20_ties_written_and_read) (n := 63) (k := 17) (x := "_law_script") rfl (by decide) (by kernel_rfl) ⟨rfl, by decide, by decide⟩ ?F
    intro w mg fa h K KX c G hmg0
    have hmg : mg ("law" : PySem.Str) = some (.ref fa) := by
      have e : (HandSHeadRun.topDef (OpenLaw.row PySem.Challenge.rw_remadedays_k20_ties_written_and_read).prog 39).name = ("law" : PySem.Str) := by kernel_rfl
      rw [← e]
      exact hmg0
    refine K20.all_mk (P := PySem.Challenge.pw_remadedays_k20_ties_written_and_read) (w := w) (K := K) (h := h) (mg := mg) (fa := fa) (ts := K20.tbs K) (f__law_pen := K20.A_f__law_pen K) (f__law_draw := K20.A_f__law_draw K) (f__law_pick := K20.A_f__law_pick K) (f_is_integer := K20.A_f_is_integer K) (f_is_within := K20.A_f_is_within K) (f_is_name := K20.A_f_is_name K) (c_BadName := K20.A_c_BadName K) (f_BadName___init__ := K20.A_f_BadName___init__ K) (cl_BadName := K20.A_cl_BadName K) (f_need_name := K20.A_f_need_name K) (f_number_in := K20.A_f_number_in K) (c_Words := K20.A_c_Words K) (c_BadText := K20.A_c_BadText K) (f_BadText___init__ := K20.A_f_BadText___init__ K) (cl_BadText := K20.A_cl_BadText K) (f_Words___init__ := K20.A_f_Words___init__ K) (f_Words_refuse := K20.A_f_Words_refuse K) (f_Words_is_over := K20.A_f_Words_is_over K) (f_Words_upcoming := K20.A_f_Words_upcoming K) (f_Words_skip := K20.A_f_Words_skip K) (f_Words_take_of := K20.A_f_Words_take_of K) (f_Words_take_name := K20.A_f_Words_take_name K) (f_Words_take_number := K20.A_f_Words_take_number K) (f_Words_close := K20.A_f_Words_close K) (c_Tie := K20.A_c_Tie K) (c_Numbered := K20.A_c_Numbered K) (c_Back := K20.A_c_Back K) (c_Ahead := K20.A_c_Ahead K) (c_Sofar := K20.A_c_Sofar K) (c_Whole := K20.A_c_Whole K) (c_Last := K20.A_c_Last K) (c_Same := K20.A_c_Same K) (f_Tie___init__ := K20.A_f_Tie___init__ K) (f_Numbered___init__ := K20.A_f_Numbered___init__ K) (c_BadNumber := K20.A_c_BadNumber K) (f_BadNumber___init__ := K20.A_f_BadNumber___init__ K) (cl_BadNumber := K20.A_cl_BadNumber K) (f_Back___init__ := K20.A_f_Back___init__ K) (f_Ahead___init__ := K20.A_f_Ahead___init__ K) (f_Back___str__ := K20.A_f_Back___str__ K) (f_Ahead___str__ := K20.A_f_Ahead___str__ K) (f_Sofar___str__ := K20.A_f_Sofar___str__ K) (f_Whole___str__ := K20.A_f_Whole___str__ K) (f_Last___str__ := K20.A_f_Last___str__ K) (f_Same___str__ := K20.A_f_Same___str__ K) (f_Tie___eq__ := K20.A_f_Tie___eq__ K) (f__law_tie := K20.A_f__law_tie K) (f__law_plain := K20.A_f__law_plain K) (f_take_tie := K20.A_f_take_tie K) (p_Tie_read := K20.A_p_Tie_read K) (rs_Tie_read := K20.A_rs_Tie_read K) (f_Tie_read := K20.A_f_Tie_read K) (c_DayError := K20.A_c_DayError K) (f__law_heard := K20.A_f__law_heard K) (f__law_wrong := K20.A_f__law_wrong K) (f__law_bent := K20.A_f__law_bent K) (f_law := K20.A_f_law K) (P_law := K20.A_P_law K) KX G hmg
      (DL.Hd.Says.dec c 0 0 (by kernel_rfl))
      (DL.Hd.Says.dec c 0 1 (by kernel_rfl))
      (DL.Hd.Says.dec c 0 2 (by kernel_rfl))
      (DL.Hd.Says.dec c 0 3 (by kernel_rfl))
      (DL.Hd.Says.dec c 0 4 (by kernel_rfl))
      (DL.Hd.Says.dec c 0 5 (by kernel_rfl))
      (DL.Hd.Says.dec c 0 6 (by kernel_rfl))
      (DL.Hd.Says.dec c 0 7 (by kernel_rfl))
      (DL.Hd.Says.dec c 0 8 (by kernel_rfl))
      (DL.Hd.Says.dec c 0 9 (by kernel_rfl))
      (DL.Hd.Says.dec c 0 10 (by kernel_rfl))
      (DL.Hd.Says.dec c 0 11 (by kernel_rfl))
      (DL.Hd.Says.dec c 0 12 (by kernel_rfl))
      (DL.Hd.Says.dec c 0 13 (by kernel_rfl))
      (DL.Hd.Says.dec c 0 14 (by kernel_rfl))
      (DL.Hd.Says.dec c 0 15 (by kernel_rfl))
      (DL.Hd.Says.dec c 0 16 (by kernel_rfl))
      (DL.Hd.Says.dec c 0 17 (by kernel_rfl))
      (DL.Hd.Says.dec c 0 18 (by kernel_rfl))
      (DL.Hd.Says.dec c 0 19 (by kernel_rfl))
      (DL.Hd.Says.dec c 0 20 (by kernel_rfl))
      (DL.Hd.Says.dec c 0 21 (by kernel_rfl))
      (DL.Hd.Says.dec c 0 22 (by kernel_rfl))
      (DL.Hd.Says.dec c 0 23 (by kernel_rfl))
      (DL.Hd.Says.fun c 0 0 (by kernel_rfl))
      (DL.Hd.Says.dec c 0 24 (by kernel_rfl))
      (DL.Hd.Says.fun c 0 1 (by kernel_rfl))
      (DL.Hd.Says.dec c 0 25 (by kernel_rfl))
      (DL.Hd.Says.fun c 0 2 (by kernel_rfl))
      (DL.Hd.Says.dec c 0 26 (by kernel_rfl))
      (DL.Hd.Says.fun c 0 3 (by kernel_rfl))
      (DL.Hd.Says.dec c 0 27 (by kernel_rfl))
      (DL.Hd.Says.fun c 0 4 (by kernel_rfl))
      (DL.Hd.Says.dec c 0 28 (by kernel_rfl))
      (DL.Hd.Says.dec c 0 29 (by kernel_rfl))
      (DL.Hd.Says.dec c 1 0 (by kernel_rfl))
      (DL.Hd.Says.fun c 0 5 (by kernel_rfl))
      (DL.Hd.Says.dec c 1 1 (by kernel_rfl))
      (DL.Hd.Says.dec c 1 2 (by kernel_rfl))
      (DL.Hd.Says.dec c 1 3 (by kernel_rfl))
      (DL.Hd.Says.dec c 1 4 (by kernel_rfl))
      (DL.Hd.Says.dec c 1 5 (by kernel_rfl))
      (DL.Hd.Says.dec c 1 6 (by kernel_rfl))
      (DL.Hd.Says.dec c 1 7 (by kernel_rfl))
      (DL.Hd.Says.dec c 1 8 (by kernel_rfl))
      (DL.Hd.Says.xi (P := PySem.Challenge.pw_remadedays_k20_ties_written_and_read) (us := [("__class__" : PySem.Str)]) c 0 6 (by kernel_rfl) (DL.Hd.Says.dec c 10 3 (by kernel_rfl)))
      (DL.Hd.Says.dec c 1 9 (by kernel_rfl))
      (DL.Hd.Says.dec c 1 10 (by kernel_rfl))
      (DL.Hd.Says.dec c 1 11 (by kernel_rfl))
      (DL.Hd.Says.dec c 1 12 (by kernel_rfl))
      (DL.Hd.Says.dec c 1 13 (by kernel_rfl))
      (by decide +kernel)
      (DL.Hd.Says.dec c 1 14 (by kernel_rfl))
      (DL.Hd.Says.dec c 1 15 (by kernel_rfl))
      (DL.Hd.Says.dec c 1 16 (by kernel_rfl))
      (DL.Hd.Says.dec c 1 17 (by kernel_rfl))
      (DL.Hd.Says.dec c 1 18 (by kernel_rfl))
      (DL.Hd.Says.dec c 1 19 (by kernel_rfl))
      (DL.Hd.Says.dec c 1 20 (by kernel_rfl))
      (DL.Hd.Says.dec c 1 21 (by kernel_rfl))
      (DL.Hd.Says.dec c 1 22 (by kernel_rfl))
      (DL.Hd.Says.dec c 1 23 (by kernel_rfl))
      (DL.Hd.Says.fun c 0 7 (by kernel_rfl))
      (DL.Hd.Says.dec c 1 24 (by kernel_rfl))
      (DL.Hd.Says.dec c 1 25 (by kernel_rfl))
      (DL.Hd.Says.dec c 1 26 (by kernel_rfl))
      (DL.Hd.Says.fun c 0 8 (by kernel_rfl))
      (DL.Hd.Says.dec c 1 27 (by kernel_rfl))
      (DL.Hd.Says.dec c 1 28 (by kernel_rfl))
      (DL.Hd.Says.dec c 1 29 (by kernel_rfl))
      (DL.Hd.Says.dec c 2 0 (by kernel_rfl))
      (DL.Hd.Says.dec c 2 1 (by kernel_rfl))
      (DL.Hd.Says.dec c 2 2 (by kernel_rfl))
      (DL.Hd.Says.dec c 2 3 (by kernel_rfl))
      (DL.Hd.Says.dec c 2 4 (by kernel_rfl))
      (DL.Hd.Says.dec c 2 5 (by kernel_rfl))
      (DL.Hd.Says.dec c 2 6 (by kernel_rfl))
      (DL.Hd.Says.dec c 2 7 (by kernel_rfl))
      (DL.Hd.Says.dec c 2 8 (by kernel_rfl))
      (DL.Hd.Says.dec c 2 9 (by kernel_rfl))
      (DL.Hd.Says.dec c 2 10 (by kernel_rfl))
      (DL.Hd.Says.dec c 2 11 (by kernel_rfl))
      (DL.Hd.Says.dec c 2 12 (by kernel_rfl))
      (DL.Hd.Says.xi (P := PySem.Challenge.pw_remadedays_k20_ties_written_and_read) (us := [("__class__" : PySem.Str)]) c 1 15 (by kernel_rfl) (DL.Hd.Says.dec c 10 6 (by kernel_rfl)))
      (DL.Hd.Says.dec c 2 13 (by kernel_rfl))
      (DL.Hd.Says.dec c 2 14 (by kernel_rfl))
      (DL.Hd.Says.dec c 2 15 (by kernel_rfl))
      (DL.Hd.Says.dec c 2 16 (by kernel_rfl))
      (DL.Hd.Says.dec c 2 17 (by kernel_rfl))
      (DL.Hd.Says.dec c 2 18 (by kernel_rfl))
      (DL.Hd.Says.dec c 2 19 (by kernel_rfl))
      (DL.Hd.Says.dec c 2 20 (by kernel_rfl))
      (DL.Hd.Says.dec c 2 21 (by kernel_rfl))
      (DL.Hd.Says.dec c 2 22 (by kernel_rfl))
      (DL.Hd.Says.dec c 2 23 (by kernel_rfl))
      (DL.Hd.Says.dec c 2 24 (by kernel_rfl))
      (DL.Hd.Says.dec c 2 25 (by kernel_rfl))
      (DL.Hd.Says.funD c 0 10 (by kernel_rfl))
      (DL.Hd.Says.dec c 2 26 (by kernel_rfl))
      (DL.Hd.Says.dec c 2 27 (by kernel_rfl))
      (DL.Hd.Says.dec c 2 28 (by kernel_rfl))
      (DL.Hd.Says.dec c 2 29 (by kernel_rfl))
      (DL.Hd.Says.funD c 0 11 (by kernel_rfl))
      (DL.Hd.Says.dec c 3 0 (by kernel_rfl))
      (DL.Hd.Says.dec c 3 1 (by kernel_rfl))
      (DL.Hd.Says.fun c 0 12 (by kernel_rfl))
      (DL.Hd.Says.dec c 3 2 (by kernel_rfl))
      (DL.Hd.Says.dec c 3 3 (by kernel_rfl))
      (DL.Hd.Says.fun c 0 13 (by kernel_rfl))
      (DL.Hd.Says.dec c 3 4 (by kernel_rfl))
      (DL.Hd.Says.dec c 3 5 (by kernel_rfl))
      (DL.Hd.Says.fun c 0 14 (by kernel_rfl))
      (DL.Hd.Says.dec c 3 6 (by kernel_rfl))
      (DL.Hd.Says.dec c 3 7 (by kernel_rfl))
      (DL.Hd.Says.fun c 0 15 (by kernel_rfl))
      (DL.Hd.Says.dec c 3 8 (by kernel_rfl))
      (DL.Hd.Says.dec c 3 9 (by kernel_rfl))
      (DL.Hd.Says.fun c 0 16 (by kernel_rfl))
      (DL.Hd.Says.dec c 3 10 (by kernel_rfl))
      (DL.Hd.Says.dec c 3 11 (by kernel_rfl))
      (DL.Hd.Says.funD c 0 17 (by kernel_rfl))
      (DL.Hd.Says.dec c 3 12 (by kernel_rfl))
      (DL.Hd.Says.dec c 3 13 (by kernel_rfl))
      (DL.Hd.Says.fun c 0 18 (by kernel_rfl))
      (DL.Hd.Says.dec c 3 14 (by kernel_rfl))
      (DL.Hd.Says.dec c 3 15 (by kernel_rfl))
      (DL.Hd.Says.dec c 3 16 (by kernel_rfl))
      (DL.Hd.Says.dec c 3 17 (by kernel_rfl))
      (DL.Hd.Says.dec c 3 18 (by kernel_rfl))
      (DL.Hd.Says.dec c 3 19 (by kernel_rfl))
      (DL.Hd.Says.dec c 3 20 (by kernel_rfl))
      (DL.Hd.Says.dec c 3 21 (by kernel_rfl))
      (DL.Hd.Says.dec c 3 22 (by kernel_rfl))
      (DL.Hd.Says.dec c 3 23 (by kernel_rfl))
      (DL.Hd.Says.dec c 3 24 (by kernel_rfl))
      (DL.Hd.Says.dec c 3 25 (by kernel_rfl))
      (DL.Hd.Says.dec c 3 26 (by kernel_rfl))
      (DL.Hd.Says.dec c 3 27 (by kernel_rfl))
      (DL.Hd.Says.dec c 3 28 (by kernel_rfl))
      (DL.Hd.Says.dec c 3 29 (by kernel_rfl))
      (DL.Hd.Says.dec c 4 0 (by kernel_rfl))
      (DL.Hd.Says.dec c 4 1 (by kernel_rfl))
      (DL.Hd.Says.dec c 4 2 (by kernel_rfl))
      (DL.Hd.Says.dec c 4 3 (by kernel_rfl))
      (DL.Hd.Says.dec c 4 4 (by kernel_rfl))
      (DL.Hd.Says.dec c 4 5 (by kernel_rfl))
      (DL.Hd.Says.dec c 4 6 (by kernel_rfl))
      (DL.Hd.Says.dec c 4 7 (by kernel_rfl))
      (DL.Hd.Says.dec c 4 8 (by kernel_rfl))
      (DL.Hd.Says.dec c 4 9 (by kernel_rfl))
      (DL.Hd.Says.dec c 4 10 (by kernel_rfl))
      (DL.Hd.Says.dec c 4 11 (by kernel_rfl))
      (DL.Hd.Says.dec c 4 12 (by kernel_rfl))
      (DL.Hd.Says.dec c 4 13 (by kernel_rfl))
      (DL.Hd.Says.dec c 4 14 (by kernel_rfl))
      (DL.Hd.Says.dec c 4 15 (by kernel_rfl))
      (DL.Hd.Says.dec c 4 16 (by kernel_rfl))
      (DL.Hd.Says.dec c 4 17 (by kernel_rfl))
      (DL.Hd.Says.dec c 4 18 (by kernel_rfl))
      (DL.Hd.Says.dec c 4 19 (by kernel_rfl))
      (DL.Hd.Says.dec c 4 20 (by kernel_rfl))
      (DL.Hd.Says.dec c 4 21 (by kernel_rfl))
      (DL.Hd.Says.dec c 4 22 (by kernel_rfl))
      (DL.Hd.Says.dec c 4 23 (by kernel_rfl))
      (DL.Hd.Says.dec c 4 24 (by kernel_rfl))
      (DL.Hd.Says.dec c 4 25 (by kernel_rfl))
      (DL.Hd.Says.fun c 0 19 (by kernel_rfl))
      (DL.Hd.Says.dec c 4 26 (by kernel_rfl))
      (DL.Hd.Says.dec c 4 27 (by kernel_rfl))
      (DL.Hd.Says.dec c 4 28 (by kernel_rfl))
      (DL.Hd.Says.dec c 4 29 (by kernel_rfl))
      (DL.Hd.Says.dec c 5 0 (by kernel_rfl))
      (DL.Hd.Says.dec c 5 1 (by kernel_rfl))
      (DL.Hd.Says.dec c 5 2 (by kernel_rfl))
      (DL.Hd.Says.dec c 5 3 (by kernel_rfl))
      (DL.Hd.Says.dec c 5 4 (by kernel_rfl))
      (DL.Hd.Says.dec c 5 5 (by kernel_rfl))
      (DL.Hd.Says.dec c 5 6 (by kernel_rfl))
      (DL.Hd.Says.dec c 5 7 (by kernel_rfl))
      (DL.Hd.Says.dec c 5 8 (by kernel_rfl))
      (DL.Hd.Says.dec c 5 9 (by kernel_rfl))
      (DL.Hd.Says.dec c 5 10 (by kernel_rfl))
      (DL.Hd.Says.dec c 5 11 (by kernel_rfl))
      (DL.Hd.Says.dec c 5 12 (by kernel_rfl))
      (DL.Hd.Says.fun c 1 0 (by kernel_rfl))
      (DL.Hd.Says.dec c 5 13 (by kernel_rfl))
      (DL.Hd.Says.dec c 5 14 (by kernel_rfl))
      (DL.Hd.Says.dec c 5 15 (by kernel_rfl))
      (DL.Hd.Says.dec c 5 16 (by kernel_rfl))
      (DL.Hd.Says.dec c 5 17 (by kernel_rfl))
      (DL.Hd.Says.dec c 5 18 (by kernel_rfl))
      (DL.Hd.Says.dec c 5 19 (by kernel_rfl))
      (DL.Hd.Says.dec c 5 20 (by kernel_rfl))
      (DL.Hd.Says.dec c 5 21 (by kernel_rfl))
      (DL.Hd.Says.dec c 5 22 (by kernel_rfl))
      (DL.Hd.Says.dec c 5 23 (by kernel_rfl))
      (DL.Hd.Says.xi (P := PySem.Challenge.pw_remadedays_k20_ties_written_and_read) (us := [("__class__" : PySem.Str)]) c 1 1 (by kernel_rfl) (DL.Hd.Says.dec c 10 5 (by kernel_rfl)))
      (DL.Hd.Says.dec c 5 24 (by kernel_rfl))
      (DL.Hd.Says.dec c 5 25 (by kernel_rfl))
      (DL.Hd.Says.dec c 5 26 (by kernel_rfl))
      (DL.Hd.Says.dec c 5 27 (by kernel_rfl))
      (DL.Hd.Says.dec c 5 28 (by kernel_rfl))
      (DL.Hd.Says.dec c 5 29 (by kernel_rfl))
      (DL.Hd.Says.dec c 6 0 (by kernel_rfl))
      (DL.Hd.Says.dec c 6 1 (by kernel_rfl))
      (DL.Hd.Says.dec c 6 2 (by kernel_rfl))
      (DL.Hd.Says.dec c 6 3 (by kernel_rfl))
      (DL.Hd.Says.dec c 6 4 (by kernel_rfl))
      (DL.Hd.Says.dec c 6 5 (by kernel_rfl))
      (DL.Hd.Says.dec c 6 6 (by kernel_rfl))
      (DL.Hd.Says.fun c 1 2 (by kernel_rfl))
      (DL.Hd.Says.dec c 6 7 (by kernel_rfl))
      (DL.Hd.Says.dec c 6 8 (by kernel_rfl))
      (DL.Hd.Says.dec c 6 9 (by kernel_rfl))
      (DL.Hd.Says.dec c 6 10 (by kernel_rfl))
      (DL.Hd.Says.fun c 1 3 (by kernel_rfl))
      (DL.Hd.Says.dec c 6 11 (by kernel_rfl))
      (DL.Hd.Says.dec c 6 12 (by kernel_rfl))
      (DL.Hd.Says.dec c 6 13 (by kernel_rfl))
      (DL.Hd.Says.dec c 6 14 (by kernel_rfl))
      (DL.Hd.Says.fun c 1 4 (by kernel_rfl))
      (DL.Hd.Says.dec c 6 15 (by kernel_rfl))
      (DL.Hd.Says.dec c 6 16 (by kernel_rfl))
      (DL.Hd.Says.fun c 1 5 (by kernel_rfl))
      (DL.Hd.Says.dec c 6 17 (by kernel_rfl))
      (DL.Hd.Says.dec c 6 18 (by kernel_rfl))
      (DL.Hd.Says.fun c 1 6 (by kernel_rfl))
      (DL.Hd.Says.dec c 6 19 (by kernel_rfl))
      (DL.Hd.Says.dec c 6 20 (by kernel_rfl))
      (DL.Hd.Says.fun c 1 7 (by kernel_rfl))
      (DL.Hd.Says.dec c 6 21 (by kernel_rfl))
      (DL.Hd.Says.dec c 6 22 (by kernel_rfl))
      (DL.Hd.Says.fun c 1 8 (by kernel_rfl))
      (DL.Hd.Says.dec c 6 23 (by kernel_rfl))
      (DL.Hd.Says.dec c 6 24 (by kernel_rfl))
      (DL.Hd.Says.fun c 1 9 (by kernel_rfl))
      (DL.Hd.Says.dec c 6 25 (by kernel_rfl))
      (DL.Hd.Says.dec c 6 26 (by kernel_rfl))
      (DL.Hd.Says.dec c 6 27 (by kernel_rfl))
      (DL.Hd.Says.dec c 6 28 (by kernel_rfl))
      (DL.Hd.Says.dec c 6 29 (by kernel_rfl))
      (DL.Hd.Says.dec c 7 0 (by kernel_rfl))
      (DL.Hd.Says.dec c 7 1 (by kernel_rfl))
      (DL.Hd.Says.dec c 7 2 (by kernel_rfl))
      (DL.Hd.Says.dec c 7 3 (by kernel_rfl))
      (DL.Hd.Says.dec c 7 4 (by kernel_rfl))
      (DL.Hd.Says.dec c 7 5 (by kernel_rfl))
      (DL.Hd.Says.dec c 7 6 (by kernel_rfl))
      (DL.Hd.Says.dec c 7 7 (by kernel_rfl))
      (DL.Hd.Says.dec c 7 8 (by kernel_rfl))
      (DL.Hd.Says.dec c 7 9 (by kernel_rfl))
      (DL.Hd.Says.dec c 7 10 (by kernel_rfl))
      (DL.Hd.Says.dec c 7 11 (by kernel_rfl))
      (DL.Hd.Says.dec c 7 12 (by kernel_rfl))
      (DL.Hd.Says.dec c 7 13 (by kernel_rfl))
      (DL.Hd.Says.dec c 7 14 (by kernel_rfl))
      (DL.Hd.Says.dec c 7 15 (by kernel_rfl))
      (DL.Hd.Says.dec c 7 16 (by kernel_rfl))
      (DL.Hd.Says.dec c 7 17 (by kernel_rfl))
      (DL.Hd.Says.dec c 7 18 (by kernel_rfl))
      (DL.Hd.Says.dec c 7 19 (by kernel_rfl))
      (DL.Hd.Says.dec c 7 20 (by kernel_rfl))
      (DL.Hd.Says.dec c 7 21 (by kernel_rfl))
      (DL.Hd.Says.dec c 7 22 (by kernel_rfl))
      (DL.Hd.Says.dec c 7 23 (by kernel_rfl))
      (DL.Hd.Says.dec c 7 24 (by kernel_rfl))
      (DL.Hd.Says.dec c 7 25 (by kernel_rfl))
      (DL.Hd.Says.dec c 7 26 (by kernel_rfl))
      (DL.Hd.Says.dec c 7 27 (by kernel_rfl))
      (DL.Hd.Says.fun c 1 10 (by kernel_rfl))
      (DL.Hd.Says.dec c 7 28 (by kernel_rfl))
      (DL.Hd.Says.dec c 7 29 (by kernel_rfl))
      (DL.Hd.Says.dec c 8 0 (by kernel_rfl))
      (DL.Hd.Says.dec c 8 1 (by kernel_rfl))
      (DL.Hd.Says.dec c 8 2 (by kernel_rfl))
      (DL.Hd.Says.dec c 8 3 (by kernel_rfl))
      (DL.Hd.Says.dec c 8 4 (by kernel_rfl))
      (DL.Hd.Says.dec c 8 5 (by kernel_rfl))
      (DL.Hd.Says.dec c 8 6 (by kernel_rfl))
      (DL.Hd.Says.dec c 8 7 (by kernel_rfl))
      (DL.Hd.Says.dec c 8 8 (by kernel_rfl))
      (DL.Hd.Says.dec c 8 9 (by kernel_rfl))
      (DL.Hd.Says.dec c 8 10 (by kernel_rfl))
      (DL.Hd.Says.dec c 8 11 (by kernel_rfl))
      (DL.Hd.Says.dec c 8 12 (by kernel_rfl))
      (DL.Hd.Says.dec c 8 13 (by kernel_rfl))
      (DL.Hd.Says.dec c 8 14 (by kernel_rfl))
      (DL.Hd.Says.dec c 8 15 (by kernel_rfl))
      (DL.Hd.Says.dec c 8 16 (by kernel_rfl))
      (DL.Hd.Says.dec c 8 17 (by kernel_rfl))
      (DL.Hd.Says.dec c 8 18 (by kernel_rfl))
      (DL.Hd.Says.dec c 8 19 (by kernel_rfl))
      (DL.Hd.Says.dec c 8 20 (by kernel_rfl))
      (DL.Hd.Says.dec c 8 21 (by kernel_rfl))
      (DL.Hd.Says.dec c 8 22 (by kernel_rfl))
      (DL.Hd.Says.dec c 8 23 (by kernel_rfl))
      (DL.Hd.Says.dec c 8 24 (by kernel_rfl))
      (DL.Hd.Says.dec c 8 25 (by kernel_rfl))
      (DL.Hd.Says.dec c 8 26 (by kernel_rfl))
      (DL.Hd.Says.dec c 8 27 (by kernel_rfl))
      (DL.Hd.Says.dec c 8 28 (by kernel_rfl))
      (DL.Hd.Says.dec c 8 29 (by kernel_rfl))
      (DL.Hd.Says.dec c 9 0 (by kernel_rfl))
      (DL.Hd.Says.dec c 9 1 (by kernel_rfl))
      (DL.Hd.Says.dec c 9 2 (by kernel_rfl))
      (DL.Hd.Says.dec c 9 3 (by kernel_rfl))
      (DL.Hd.Says.dec c 9 4 (by kernel_rfl))
      (DL.Hd.Says.dec c 9 5 (by kernel_rfl))
      (DL.Hd.Says.dec c 9 6 (by kernel_rfl))
      (DL.Hd.Says.dec c 9 7 (by kernel_rfl))
      (DL.Hd.Says.dec c 9 8 (by kernel_rfl))
      (DL.Hd.Says.dec c 9 9 (by kernel_rfl))
      (DL.Hd.Says.dec c 9 10 (by kernel_rfl))
      (DL.Hd.Says.dec c 9 11 (by kernel_rfl))
      (DL.Hd.Says.fun c 1 11 (by kernel_rfl))
      (DL.Hd.Says.dec c 9 12 (by kernel_rfl))
      (DL.Hd.Says.fun c 1 12 (by kernel_rfl))
      (DL.Hd.Says.dec c 9 13 (by kernel_rfl))
      (DL.Hd.Says.dec c 9 14 (by kernel_rfl))
      (DL.Hd.Says.fun c 1 13 (by kernel_rfl))
      (DL.Hd.Says.dec c 9 15 (by kernel_rfl))
      (DL.Hd.Says.dec c 9 16 (by kernel_rfl))
      (DL.Hd.Says.dec c 9 17 (by kernel_rfl))
      (DL.Hd.Says.fun c 1 14 (by kernel_rfl))
      (DL.Hd.Says.dec c 9 18 (by kernel_rfl))
      (DL.Hd.Says.dec c 9 19 (by kernel_rfl))
      (DL.Hd.Says.dec c 9 20 (by kernel_rfl))
      (DL.Hd.Says.dec c 9 21 (by kernel_rfl))
      (DL.Hd.Says.fun c 1 16 (by kernel_rfl))
      (DL.Hd.Says.dec c 9 22 (by kernel_rfl))
      (DL.Hd.Says.fun c 1 17 (by kernel_rfl))
      (DL.Hd.Says.dec c 9 23 (by kernel_rfl))
      (DL.Hd.Says.fun c 1 18 (by kernel_rfl))
      (DL.Hd.Says.dec c 9 24 (by kernel_rfl))
      (DL.Hd.Says.dec c 9 25 (by kernel_rfl))
      (DL.Hd.Says.dec c 9 26 (by kernel_rfl))
      (DL.Hd.Says.dec c 9 27 (by kernel_rfl))
      (DL.Hd.Says.dec c 9 28 (by kernel_rfl))
      (DL.Hd.Says.dec c 9 29 (by kernel_rfl))
      (DL.Hd.Says.dec c 10 0 (by kernel_rfl))
      (DL.Hd.Says.fun c 1 19 (by kernel_rfl))
      (DL.Hd.Says.dec c 10 1 (by kernel_rfl))
      (by first | exact List.mem_cons_self | (unfold K20.tbs; simp))
      (DL.Hd.Says.dec c 10 2 (by kernel_rfl))
