import PyProof.Rows.All
import Wide.All
import OpenK.AllK
import Wide.FinOn
import HandS.ForMost
import HandS.ForSpec
import HandS.Wide
import HandS.WideBits
import HandS.TupAny
import HandS.FStr
import HandS.RaiseMore
import HandS.Property
import HandS.ClsMeth
import HandS.Star
import KE.KFmtOwn
import PyProof.ReprRoads
import PyProof.InstNe
import HandS.IsInst
import HandS.Iter
import HandS.Comp
import HandS.ExcInit
import HandS.ExcIs
import HandS.ExcField
import HandS.Dict
import HandS.More
import HandS.SortInts
import HandS.TupSets
import KE.GoesMore
import KE.GoesEnum
import HandS.DictComp
import HandS.TupMul
import HandS.Style
import HandS.Text
import KE.KRevSl
import HandS.Defaults
import HandS.HotCalls
import PySem.Challenge.RW_pulserope_k03_invalid_frames
set_option Elab.async false
set_option linter.all false
set_option maxRecDepth 100000
set_option maxHeartbeats 0
/-! U0: the judgements as weakest preconditions over the text (We .. Wi), rules for each construct. -/
namespace U
open PySem PySem.Spec L2
open PyProof.Rows hiding St

/-! ### the judgements -/
def We (X : Cx) (e : Expr) (σ : St) (H : Hp) (Q : VK) : Prop := ∀ (pins : List (Addr × Obj)) (s : Shared), Inv X pins σ H s → wpAny (model X.prog X.w) X.A (eval e X.env) (EP X pins σ Q) X.xe s
def Wt (X : Cx) (e : Expr) (σ : St) (H : Hp) (Q : Bool → Hp → Prop) : Prop := ∀ (pins : List (Addr × Obj)) (s : Shared), Inv X pins σ H s → wpAny (model X.prog X.w) X.A (isTrue e X.env (eval e X.env)) (TP X pins σ Q) X.xe s
def Ww (X : Cx) (e : Expr) (σ : St) (H : Hp) (Q : Bool → Hp → Prop) : Prop := ∀ (whole : Sem Value) (pins : List (Addr × Obj)) (s : Shared), Inv X pins σ H s → wpAny (model X.prog X.w) X.A (isTrue e X.env whole) (TP X pins σ Q) X.xe s
def Wa (X : Cx) (es : List Expr) (σ : St) (H : Hp) (Q : List V → Hp → Prop) : Prop := ∀ (pos : Pos) (pins : List (Addr × Obj)) (s : Shared), Inv X pins σ H s → wpAny (model X.prog X.w) X.A (spliced (backTo pos (starEach es X.env))) (AP X pins σ Q) X.xe s
def Ws (X : Cx) (st : Stmt) (D : Ends) (σ : St) (H : Hp) : Prop := ∀ (pins : List (Addr × Obj)) (s : Shared), Inv X pins σ H s → wpAny (model X.prog X.w) X.A (exec st X.env) (SP X pins D) X.xe s
def Wss (X : Cx) (st : List Stmt) (D : Ends) (σ : St) (H : Hp) : Prop := ∀ (pins : List (Addr × Obj)) (s : Shared), Inv X pins σ H s → wpAny (model X.prog X.w) X.A (execs st X.env) (SP X pins D) X.xe s
def Wg (X : Cx) (tg : Expr) (v : V) (σ : St) (H : Hp) (Q : St → Hp → Prop) : Prop := ∀ (pins : List (Addr × Obj)) (s : Shared) (u : Value), Inv X pins σ H s → RelV v u →
  wpAny (model X.prog X.w) X.A (assign tg X.env u) (fun _ s' => ∃ σ' H', Inv X pins σ' H' s' ∧ Q σ' H') X.xe s
def Wgs (X : Cx) (ts : List Expr) (vs : List V) (σ : St) (H : Hp) (Q : St → Hp → Prop) : Prop := ∀ (pins : List (Addr × Obj)) (s : Shared) (us : List Value), Inv X pins σ H s → Vals vs us →
  wpAny (model X.prog X.w) X.A (assignInOrder ((assignEach ts X.env).map (·.2)) us) (fun _ s' => ∃ σ' H', Inv X pins σ' H' s' ∧ Q σ' H') X.xe s
def Wi (X : Cx) (tg iter : Expr) (σ : St) (H : Hp) (R : It → Hp → Prop) : Prop := ∀ (pins : List (Addr × Obj)) (s : Shared), Inv X pins σ H s →
  wpAny (model X.prog X.w) X.A (eval iter X.env) (fun v s1 => wpAny (model X.prog X.w) X.A (pyIter v) (PIE X pins σ tg R) X.xe s1) X.xe s
def Wop (X : Cx) (f : Value → Value → Sem Value) (x y : V) (H : Hp) (Q : VK) : Prop := ∀ (pins : List (Addr × Obj)) (s : Shared) (σ : St) (v u : Value), Inv X pins σ H s → RelV x v → RelV y u → wpAny (model X.prog X.w) X.A (f v u) (EP X pins σ Q) X.xe s
def Wun (X : Cx) (f : Value → Sem Value) (x : V) (H : Hp) (Q : VK) : Prop := ∀ (pins : List (Addr × Obj)) (s : Shared) (σ : St) (v : Value), Inv X pins σ H s → RelV x v → wpAny (model X.prog X.w) X.A (f v) (EP X pins σ Q) X.xe s
def Wcall (X : Cx) (f : Value) (xs : List V) (H : Hp) (Q : VK) : Prop := ∀ (pins : List (Addr × Obj)) (s : Shared) (σ : St) (us : List Value), Inv X pins σ H s → Vals xs us → wpAny (model X.prog X.w) X.A (call f us) (EP X pins σ Q) X.xe s
def Wix (X : Cx) (x y : V) (H : Hp) (Q : VK) : Prop := ∀ (value slice : Expr) (pins : List (Addr × Obj)) (s : Shared) (σ : St) (v u : Value), Inv X pins σ H s → RelV x v → RelV y u →
  subscripted slice false v u = operate [v, u] (getItem v u) → wpAny (model X.prog X.w) X.A (subscriptTail value slice v u) (EP X pins σ Q) X.xe s
def Wset (X : Cx) (o i v : V) (H : Hp) (Q : Hp → Prop) : Prop := ∀ (pins : List (Addr × Obj)) (s : Shared) (σ : St) (ov iv u : Value), Inv X pins σ H s → RelV o ov → RelV i iv → RelV v u →
  wpAny (model X.prog X.w) X.A (setItem ov iv u) (fun _ s' => ∃ H', Inv X pins σ H' s' ∧ Q H') X.xe s

section
variable {X : Cx}
theorem peU {e : Expr} : PE X e (We X e) := ⟨fun pins s _ _ _ I h => h pins s I⟩
theorem ptU {e : Expr} : PT X e (Wt X e) := ⟨fun pins s _ _ _ I h => h pins s I⟩
theorem pwU {e : Expr} : PW X e (Ww X e) := ⟨fun wh pins s _ _ _ I h => h wh pins s I⟩
theorem paU {es : List Expr} : PA X es (Wa X es) := ⟨fun pos pins s _ _ _ I h => h pos pins s I⟩
theorem psU {st : Stmt} : PS X st (Ws X st) := ⟨fun pins s _ _ _ I h => h pins s I⟩
theorem pssU {st : List Stmt} : PSs X st (Wss X st) := ⟨fun pins s _ _ _ I h => h pins s I⟩
theorem pgU {tg : Expr} : PG X tg (Wg X tg) := ⟨fun pins s _ _ _ u _ I r h => h pins s u I r⟩
theorem pgsU {ts : List Expr} : PGs X ts (Wgs X ts) := ⟨fun pins s _ _ _ us _ I r h => h pins s us I r⟩
theorem piU {tg iter : Expr} : PI X tg iter (Wi X tg iter) := ⟨fun pins s _ _ _ I h => h pins s I⟩
theorem opU {f : Value → Value → Sem Value} : OpR X f (Wop X f) := fun pins s σ _ _ _ v u _ I r1 r2 h => h pins s σ v u I r1 r2
theorem unU {f : Value → Sem Value} : UnR X f (Wun X f) := fun pins s σ _ _ v _ I r1 h => h pins s σ v I r1
theorem callU {f : Value} : CallR X f (Wcall X f) := fun pins s σ _ _ us _ I r h => h pins s σ us I r
theorem ixU : IxR X (Wix X) := fun value slice pins s σ _ _ _ v u _ I r1 r2 h hs => h value slice pins s σ v u I r1 r2 hs
theorem setU : PSet X (Wset X) := fun pins s σ _ _ _ _ ov iv u _ I r1 r2 r3 h => h pins s σ ov iv u I r1 r2 r3

theorem ofPE {e : Expr} {t : TE} {σ : St} {H : Hp} {Q : VK} (p : PE X e t) (h : t σ H Q) : We X e σ H Q := fun pins s I => p.run pins s σ H Q I h
theorem ofPT {e : Expr} {t : TT} {σ : St} {H : Hp} {Q : Bool → Hp → Prop} (p : PT X e t) (h : t σ H Q) : Wt X e σ H Q := fun pins s I => p.run pins s σ H Q I h
theorem ofPW {e : Expr} {t : TT} {σ : St} {H : Hp} {Q : Bool → Hp → Prop} (p : PW X e t) (h : t σ H Q) : Ww X e σ H Q := fun wh pins s I => p.run wh pins s σ H Q I h
theorem ofPA {e : List Expr} {t : TA} {σ : St} {H : Hp} {Q : List V → Hp → Prop} (p : PA X e t) (h : t σ H Q) : Wa X e σ H Q := fun pos pins s I => p.run pos pins s σ H Q I h
theorem ofPS {st : Stmt} {t : TS} {D : Ends} {σ : St} {H : Hp} (p : PS X st t) (h : t D σ H) : Ws X st D σ H := fun pins s I => p.run pins s σ H D I h
theorem ofPSs {st : List Stmt} {t : TS} {D : Ends} {σ : St} {H : Hp} (p : PSs X st t) (h : t D σ H) : Wss X st D σ H := fun pins s I => p.run pins s σ H D I h
theorem ofPG {e : Expr} {t : TG} {v : V} {σ : St} {H : Hp} {Q : St → Hp → Prop} (p : PG X e t) (h : t v σ H Q) : Wg X e v σ H Q := fun pins s u I r => p.run pins s σ H v u Q I r h
theorem ofPGs {e : List Expr} {t : TGs} {v : List V} {σ : St} {H : Hp} {Q : St → Hp → Prop} (p : PGs X e t) (h : t v σ H Q) : Wgs X e v σ H Q := fun pins s u I r => p.run pins s σ H v u Q I r h
theorem ofPI {tg it : Expr} {t : TI} {σ : St} {H : Hp} {R : It → Hp → Prop} (p : PI X tg it t) (h : t σ H R) : Wi X tg it σ H R := fun pins s I => p.run pins s σ H R I h
theorem ofOp {f : Value → Value → Sem Value} {r : R2} {x y : V} {H : Hp} {Q : VK} (p : OpR X f r) (h : r x y H Q) : Wop X f x y H Q := fun pins s σ v u I r1 r2 => p pins s σ H x y v u Q I r1 r2 h
theorem ofUn {f : Value → Sem Value} {r : V → Hp → VK → Prop} {x : V} {H : Hp} {Q : VK} (p : UnR X f r) (h : r x H Q) : Wun X f x H Q := fun pins s σ v I r1 => p pins s σ H x v Q I r1 h
theorem ofCall {f : Value} {r : List V → Hp → VK → Prop} {xs : List V} {H : Hp} {Q : VK} (p : CallR X f r) (h : r xs H Q) : Wcall X f xs H Q := fun pins s σ us I rr => p pins s σ H xs us Q I rr h
theorem ofIx {r : R2} {x y : V} {H : Hp} {Q : VK} (p : IxR X r) (h : r x y H Q) : Wix X x y H Q := fun value slice pins s σ v u I r1 r2 hs => p value slice pins s σ H x y v u Q I r1 r2 h hs
theorem ofSet {r : TSet} {o i v : V} {H : Hp} {Q : Hp → Prop} (p : PSet X r) (h : r o i v H Q) : Wset X o i v H Q := fun pins s σ ov iv u I r1 r2 r3 => p pins s σ H o i v ov iv u Q I r1 r2 r3 h
end

/-- no exception -/
abbrev W0 : WX := fun _ _ _ _ => False
/-! ### the context of a body -/
/-- names of builtins -/
def blts : List Str := ["len", "range", "sorted", "max", "min", "tuple", "list", "dict", "int", "str", "repr", "isinstance", "abs", "enumerate", "all", "any", "sum", "zip", "set", "bool", "type", "reversed", "divmod", "map", "pow", "ValueError"]
def visB (ns : List (Str × NameKind)) (x : Str) : Bool := ns.lookup x == some .local || ns.lookup x == some .cell || ns.lookup x == some .free
def asgB (ns : List (Str × NameKind)) (x : Str) : Bool := ns.lookup x == some .local || ns.lookup x == some .cell
theorem visB_of {ns : List (Str × NameKind)} {x : Str} (h : visB ns x = true) : ns.lookup x = some .local ∨ ns.lookup x = some .cell ∨ ns.lookup x = some .free := by
  unfold visB at h
  simp only [Bool.or_eq_true, beq_iff_eq] at h
  rcases h with (h | h) | h <;> simp [h]
theorem asgB_of {ns : List (Str × NameKind)} {x : Str} (h : asgB ns x = true) : ns.lookup x = some .local ∨ ns.lookup x = some .cell := by
  unfold asgB at h
  simp only [Bool.or_eq_true, beq_iff_eq] at h
  exact h
/-- a table of names by slots (none: not seen here) fits -/
def slOk (f : Str → Bool) : List Str → List (Option Str) → Bool
  | _, [] => true
  | N, none :: V => slOk f N.tail V
  | N, some x :: V => N.head? == some x && f x && slOk f N.tail V
theorem slOk_of {f : Str → Bool} : ∀ {N : List Str} {V : List (Option Str)} {i : Nat} {x : Str}, slOk f N V = true → V[i]? = some (some x) → N[i]? = some x ∧ f x = true
  | N, none :: V, 0, x, _, e => by simp at e
  | N, some y :: V, 0, x, h, e => by
    have e' : y = x := by simpa using e
    subst e'
    unfold slOk at h
    simp only [Bool.and_eq_true, beq_iff_eq] at h
    refine ⟨?_, h.1.2⟩
    cases N with
    | nil => simp at h
    | cons z N => simpa using h.1.1
  | N, none :: V, i + 1, x, h, e => by
    have q := slOk_of (i := i) (x := x) (show slOk f N.tail V = true from h) (by simpa using e)
    cases N with
    | nil => simp at q
    | cons z N => simpa using q
  | N, some y :: V, i + 1, x, h, e => by
    have h' : slOk f N.tail V = true := by
      unfold slOk at h
      simp only [Bool.and_eq_true] at h
      exact h.2
    have q := slOk_of (i := i) (x := x) h' (by simpa using e)
    cases N with
    | nil => simp at q
    | cons z N => simpa using q
def visC (ns : List (Str × NameKind)) (x : Str) : Bool := visB ns x && !(x == ("__debug__" : Str)) && !(x == ("__classdict__" : Str))
def glB (ns : List (Str × NameKind)) (x : Str) : Bool := ns.lookup x == some .globalImplicit && !(x == ("__debug__" : Str))
def okAll (N : List Str) (ns : List (Str × NameKind)) (VL AL : List (Option Str)) (GL : List Str) : Bool := slOk (visC ns) N VL && slOk (asgB ns) N AL && GL.all (glB ns)
structure CxI (P : Program) (w : World) (K : PySem.W.Frag) (mg : Str → Option Value) (base : Heap) (k : Nat) (VL AL : List (Option Str)) (GL : List Str) (E : WX) (X : Cx) : Prop where
  eP : X.prog = P
  ew : X.w = w
  eK : X.K = K
  em : X.mg = mg
  eb : X.base = base
  nd : X.N.Nodup
  ok : okAll X.N X.env.scope.names VL AL GL = true
  fn : ∀ x, X.fn x = true ∨ some x ∉ AL ∨ X.env.scope.names.lookup x = some .local
  room : Room k X.A
  gd : X.A.guards = some []
  calm : X.calm = true
  pas : PassesOwn (model X.prog X.w) X.A X.env X.xe
  tk : Takes X E
  bl : ∀ x ∈ blts, mg x = none

/-- the name x stands in a slot that holds v -/
inductive SlotIs (x : Str) (v : V) : List (Option Str) → St → Prop
  | h {N σ} : SlotIs x v (some x :: N) (some v :: σ)
  | t {y o N σ} : SlotIs x v N σ → SlotIs x v (y :: N) (o :: σ)
inductive SetAt (x : Str) (v : V) : List (Option Str) → St → St → Prop
  | h {o N σ} : SetAt x v (some x :: N) (o :: σ) (some v :: σ)
  | t {y o N σ σ'} : SetAt x v N σ σ' → SetAt x v (y :: N) (o :: σ) (o :: σ')
inductive In (x : Str) : List Str → Prop
  | h {N} : In x (x :: N)
  | t {y N} : In x N → In x (y :: N)
theorem In.mem {x : Str} {N : List Str} (h : In x N) : x ∈ N := by
  induction h with
  | h => exact List.mem_cons_self
  | t _ ih => exact List.mem_cons_of_mem _ ih
theorem SlotIs.ix {x : Str} {v : V} {N : List (Option Str)} {σ : St} (h : SlotIs x v N σ) : ∃ i : Nat, N[i]? = some (some x) ∧ σ[i]? = some (some v) := by
  induction h with
  | h => exact ⟨0, rfl, rfl⟩
  | t _ ih =>
    obtain ⟨i, a, b⟩ := ih
    exact ⟨i + 1, by simpa using a, by simpa using b⟩
theorem SetAt.ix {x : Str} {v : V} {N : List (Option Str)} {σ σ' : St} (h : SetAt x v N σ σ') : ∃ i : Nat, N[i]? = some (some x) ∧ σ' = σ.set i (some v) := by
  induction h with
  | h => exact ⟨0, rfl, rfl⟩
  | t _ ih =>
    obtain ⟨i, a, b⟩ := ih
    exact ⟨i + 1, by simpa using a, by subst b; rfl⟩

section
variable {P : Program} {w : World} {K : PySem.W.Frag} {mg : Str → Option Value} {base : Heap} {k : Nat} {VL AL : List (Option Str)} {GL : List Str} {E : WX} {X : Cx} {σ : St} {H : Hp} {Q : VK} {pos : Pos}

theorem CxI.gl (cx : CxI P w K mg base k VL AL GL E X) {x : Str} (h : In x GL) : Gl X x ∧ (x == ("__debug__" : Str)) = false := by
  have q := cx.ok
  unfold okAll at q
  simp only [Bool.and_eq_true] at q
  have z := List.all_eq_true.mp q.2 x h.mem
  unfold glB at z
  simp only [Bool.and_eq_true, beq_iff_eq, Bool.not_eq_true'] at z
  exact z
theorem CxI.var (cx : CxI P w K mg base k VL AL GL E X) {x : Str} {v : V} (h : SlotIs x v VL σ) : ∃ i : Nat, X.N[i]? = some x ∧ σ[i]? = some (some v) ∧ Vis X.env.scope x ∧ (x == ("__debug__" : Str)) = false ∧ (x == ("__classdict__" : Str)) = false := by
  obtain ⟨i, a, b⟩ := h.ix
  have q := cx.ok
  unfold okAll at q
  simp only [Bool.and_eq_true] at q
  obtain ⟨c, d⟩ := slOk_of q.1.1 a
  unfold visC at d
  simp only [Bool.and_eq_true, Bool.not_eq_true'] at d
  exact ⟨i, c, b, visB_of d.1.1, d.1.2, d.2⟩
theorem CxI.asg (cx : CxI P w K mg base k VL AL GL E X) {x : Str} {v : V} {σ' : St} (h : SetAt x v AL σ σ') : ∃ i : Nat, X.N[i]? = some x ∧ σ' = σ.set i (some v) ∧ Loc X.env.scope x ∧ (X.fn x = true ∨ X.env.scope.names.lookup x = some .local) := by
  obtain ⟨i, a, b⟩ := h.ix
  have q := cx.ok
  unfold okAll at q
  simp only [Bool.and_eq_true] at q
  obtain ⟨c, d⟩ := slOk_of q.1.2 a
  have z := asgB_of d
  refine ⟨i, c, b, z, ?_⟩
  rcases cx.fn x with f | f | f
  · exact .inl f
  · exact absurd (List.mem_of_getElem? a) f
  · exact .inr f
theorem CxI.bltn (cx : CxI P w K mg base k VL AL GL E X) {x : Str} (h : x ∈ blts) : X.mg x = none := by
  rw [cx.em]; exact cx.bl x h

/-! ### expressions -/
theorem w_int {i : Int} {j} (h : Q (.int i) H) : We X (.Constant (.int i) j pos) σ H Q := ofPE pe_int h
theorem w_str {x : Str} {j} (h : Q (.str x) H) : We X (.Constant (.str x) j pos) σ H Q := ofPE pe_str h
theorem w_bl {b : Bool} {j} (h : Q (.bl b) H) : We X (.Constant (.bool b) j pos) σ H Q := ofPE pe_bl h
theorem w_non {j} (h : Q .non H) : We X (.Constant .none j pos) σ H Q := ofPE pe_non h
theorem w_var (cx : CxI P w K mg base k VL AL GL E X) {x : Str} {v : V} (hs : SlotIs x v VL σ) (h : Q v H) : We X (.Name x pos) σ H Q := by
  obtain ⟨i, a, b, c, d, e⟩ := cx.var hs
  exact ofPE (pe_var a c d e) ⟨v, b, h⟩
theorem w_glob (cx : CxI P w K mg base k VL AL GL E X) {x : Str} {v : V} {u : Value} (hg : In x GL) (hm : mg x = some u) (r : RelV v u) (h : Q v H) :
    We X (.Name x pos) σ H Q := ofPE (pe_glob (cx.gl hg).1 (by rw [cx.em]; exact hm) r (cx.gl hg).2) h
theorem w_bin {a b : Expr} {op : Operator} (h : We X a σ H fun x H1 => We X b σ H1 fun y H2 => Wop X (binaryOp op) x y H2 Q) : We X (.BinOp a op b pos) σ H Q := ofPE (pe_op opU peU peU) h
theorem w_un {a : Expr} {op : UnaryOp} (h : We X a σ H fun x H1 => Wun X (unaryOp op) x H1 Q) : We X (.UnaryOp op a pos) σ H Q := ofPE (pe_un unU peU) h
theorem w_cmp {a b : Expr} {op : CmpOp} (h : We X a σ H fun x H1 => We X b σ H1 fun y H2 => Wop X (compareOp op) x y H2 Q) (hm : behindInMarks op b = false := by kernel_rfl) : We X (.Compare a [op] [b] pos) σ H Q :=
  ofPE (pe_cmpR opU peU peU hm) h
theorem t_cmp {a b : Expr} {op : CmpOp} {Q : Bool → Hp → Prop} (h : We X a σ H fun x H1 => We X b σ H1 fun y H2 => Wop X (compareOp op) x y H2 fun z H3 => ∃ c, z = .bl c ∧ Q c H3) (hm : behindInMarks op b = false := by kernel_rfl) : Wt X (.Compare a [op] [b] pos) σ H Q :=
  ofPT (pt_cmpR opU peU peU hm) h
theorem w_chain {a b c : Expr} {op op' : CmpOp} (h : We X a σ H fun x H1 => We X b σ H1 fun y H2 => Wop X (compareOp op) x y H2 fun z H3 => ∃ k, z = .bl k ∧ (if k = true then We X c σ H3 fun w' H4 => Wop X (compareOp op') y w' H4 Q else Q (.bl false) H3))
    (hm : lastMarks [op, op'] [b, c] = false := by kernel_rfl) : We X (.Compare a [op, op'] [b, c] pos) σ H Q := ofPE (pe_chain opU opU peU peU peU hm) h
theorem t_chain {a b c : Expr} {op op' : CmpOp} {Q : Bool → Hp → Prop} (h : We X a σ H fun x H1 => We X b σ H1 fun y H2 => Wop X (compareOp op) x y H2 fun z H3 => ∃ k, z = .bl k ∧ (if k = true then We X c σ H3 fun w' H4 => Wop X (compareOp op') y w' H4 fun z H5 => ∃ c, z = .bl c ∧ Q c H5 else ∃ c, V.bl false = .bl c ∧ Q c H3))
    (hm : lastMarks [op, op'] [b, c] = false := by kernel_rfl) : Wt X (.Compare a [op, op'] [b, c] pos) σ H Q := ofPT (pt_chain opU opU peU peU peU hm) h
/-- tests -/
theorem t_val {e : Expr} {Q : Bool → Hp → Prop} (h : We X e σ H fun x H1 => ∃ c, x = .bl c ∧ Q c H1) (he : ∀ whole, isTrue e X.env whole = (do let v ← whole; standAt e.pos; holding [v] (truthy v)) := by exact (fun _ => by kernel_rfl)) : Wt X e σ H Q := ofPT (pt_val peU he) h
theorem t_truth {e : Expr} {Q : Bool → Hp → Prop} (h : We X e σ H fun x H1 => ∃ c, TruV X.K x H1 c ∧ Q c H1) (he : ∀ whole, isTrue e X.env whole = (do let v ← whole; standAt e.pos; holding [v] (truthy v)) := by exact (fun _ => by kernel_rfl)) : Wt X e σ H Q := ofPT (pt_truth peU he) h
theorem t_not {e : Expr} {Q : Bool → Hp → Prop} (h : Wt X e σ H fun c H1 => Q (!c) H1) : Wt X (.UnaryOp .Not e pos) σ H Q := ofPT (pt_not ptU) h
theorem t_ww {e : Expr} {Q : Bool → Hp → Prop} (h : Ww X e σ H Q) : Wt X e σ H Q := ofPT (PW.pt pwU) h
theorem ww_and {a b : Expr} {r : List Expr} {Q : Bool → Hp → Prop} (h : Wt X a σ H fun c H1 => if c = true then Ww X (.BoolOp .And (b :: r) pos) σ H1 Q else Q false H1) : Ww X (.BoolOp .And (a :: b :: r) pos) σ H Q := ofPW (pw_and ptU pwU) h
theorem ww_or {a b : Expr} {r : List Expr} {Q : Bool → Hp → Prop} (h : Wt X a σ H fun c H1 => if c = true then Q true H1 else Ww X (.BoolOp .Or (b :: r) pos) σ H1 Q) : Ww X (.BoolOp .Or (a :: b :: r) pos) σ H Q := ofPW (pw_or ptU pwU) h
theorem ww_and1 {a : Expr} {Q : Bool → Hp → Prop} (h : Wt X a σ H Q) : Ww X (.BoolOp .And [a] pos) σ H Q := ofPW (pw_and1 ptU) h
theorem ww_or1 {a : Expr} {Q : Bool → Hp → Prop} (h : Wt X a σ H Q) : Ww X (.BoolOp .Or [a] pos) σ H Q := ofPW (pw_or1 ptU) h
theorem t_and {a b : Expr} {r : List Expr} {Q : Bool → Hp → Prop} (h : Wt X a σ H fun c H1 => if c = true then Ww X (.BoolOp .And (b :: r) pos) σ H1 Q else Q false H1) : Wt X (.BoolOp .And (a :: b :: r) pos) σ H Q := t_ww (ww_and h)
theorem t_or {a b : Expr} {r : List Expr} {Q : Bool → Hp → Prop} (h : Wt X a σ H fun c H1 => if c = true then Q true H1 else Ww X (.BoolOp .Or (b :: r) pos) σ H1 Q) : Wt X (.BoolOp .Or (a :: b :: r) pos) σ H Q := t_ww (ww_or h)
theorem w_and {a b : Expr} {r : List Expr} (h : We X a σ H fun x H1 => ∃ c, x = .bl c ∧ if c = true then We X (.BoolOp .And (b :: r) pos) σ H1 Q else Q (.bl false) H1) : We X (.BoolOp .And (a :: b :: r) pos) σ H Q := ofPE (pe_and peU peU) h
theorem w_or {a b : Expr} {r : List Expr} (h : We X a σ H fun x H1 => ∃ c, x = .bl c ∧ if c = true then Q (.bl true) H1 else We X (.BoolOp .Or (b :: r) pos) σ H1 Q) : We X (.BoolOp .Or (a :: b :: r) pos) σ H Q := ofPE (pe_or peU peU) h
theorem w_bool1 {a : Expr} {op} (h : We X a σ H Q) : We X (.BoolOp op [a] pos) σ H Q := ofPE (pe_one peU) h
theorem w_not {a : Expr} (h : We X a σ H fun x H1 => ∃ c, x = .bl c ∧ Q (.bl (!c)) H1) : We X (.UnaryOp .Not a pos) σ H Q := ofPE (pe_not peU) h
theorem w_if {c a b : Expr} (h : Wt X c σ H fun z H1 => if z = true then We X a σ H1 Q else We X b σ H1 Q) : We X (.IfExp c a b pos) σ H Q := ofPE (pe_ifExp ptU peU peU) h
theorem wa_nil {Q : List V → Hp → Prop} (h : Q [] H) : Wa X [] σ H Q := ofPA pa_nil h
theorem wa_cons {e : Expr} {es : List Expr} {Q : List V → Hp → Prop} (h : We X e σ H fun x H1 => Wa X es σ H1 fun xs H2 => Q (x :: xs) H2) (hs : starEach (e :: es) X.env = (false, eval e X.env) :: starEach es X.env := by kernel_rfl) : Wa X (e :: es) σ H Q := ofPA (pa_cons peU paU hs) h
theorem w_tup {es : List Expr} {x1} (h : Wa X es σ H fun xs H1 => xs.length ≤ sizeLine ∧ ∀ p, H1 p = none → Q (.ref p) (upd H1 p (.tup xs))) : We X (.Tuple es x1 pos) σ H Q := ofPE (pe_tup paU) h
theorem w_lst {es : List Expr} (h : Wa X es σ H fun xs H1 => xs.length ≤ sizeLine ∧ ∀ p, H1 p = none → Q (.ref p) (upd H1 p (.lst xs))) : We X (.List es pos) σ H Q := ofPE (pe_lst paU) h
theorem w_ix {a b : Expr} (h : We X a σ H fun x H1 => We X b σ H1 fun y H2 => Wix X x y H2 Q) (hs : PlainIx b := by with_unfolding_all exact (fun _ _ => by kernel_rfl)) : We X (.Subscript a b pos) σ H Q := ofPE (pe_ix ixU peU peU hs) h
theorem w_fld (cx : CxI P w K mg base k VL AL GL E X) {e : Expr} {f : Str} (h : We X e σ H fun x H1 => ∃ a C dx fs v, x = .ref a ∧ H1 a = some (.ins C dx fs) ∧ Cls K C ∧ NoAttr K C f ∧ fs.lookup f = some v ∧ Q v H1)
    (hb : attributeBase e f X.env (eval e X.env) = eval e X.env := by kernel_rfl) : We X (.Attribute e f pos) σ H Q := by
  have e1 := cx.eK
  subst e1
  exact ofPE (pe_fld peU hb) h

/-! ### statements -/
variable {nx : St → Hp → Prop} {rt : VK} {bk ct : St → Hp → Prop} {rest : List Stmt}
theorem s_nil (h : nx σ H) : Wss X [] ⟨nx, rt, bk, ct⟩ σ H := ofPSs pss_nil h
theorem s_cons {st : Stmt} (h : Ws X st ⟨fun σ' H' => Wss X rest ⟨nx, rt, bk, ct⟩ σ' H', rt, bk, ct⟩ σ H) : Wss X (st :: rest) ⟨nx, rt, bk, ct⟩ σ H := ofPSs (pss_cons psU pssU) h
theorem s_doc {x j pos'} (h : Wss X rest ⟨nx, rt, bk, ct⟩ σ H) : Wss X (.Expr (.Constant (.str x) j pos) pos' :: rest) ⟨nx, rt, bk, ct⟩ σ H := ofPSs (pss_cons ps_doc pssU) h
theorem s_pass (h : Wss X rest ⟨nx, rt, bk, ct⟩ σ H) : Wss X (.Pass pos :: rest) ⟨nx, rt, bk, ct⟩ σ H := ofPSs (pss_cons ps_pass pssU) h
theorem s_break (h : bk σ H) : Wss X (.Break pos :: rest) ⟨nx, rt, bk, ct⟩ σ H := ofPSs (pss_cons ps_break pssU) h
theorem s_cont (h : ct σ H) : Wss X (.Continue pos :: rest) ⟨nx, rt, bk, ct⟩ σ H := ofPSs (pss_cons ps_continue pssU) h
theorem s_ret {e : Expr} (h : We X e σ H rt) : Wss X (.Return (some e) pos :: rest) ⟨nx, rt, bk, ct⟩ σ H := ofPSs (pss_cons (ps_ret peU) pssU) h
theorem s_retN (h : rt .non H) : Wss X (.Return none pos :: rest) ⟨nx, rt, bk, ct⟩ σ H := ofPSs (pss_cons ps_retN pssU) h
theorem s_expr {e : Expr} (h : We X e σ H fun _ H1 => Wss X rest ⟨nx, rt, bk, ct⟩ σ H1) (hs : swapsWith e none pos.line X.env = pure false := by kernel_rfl) : Wss X (.Expr e pos :: rest) ⟨nx, rt, bk, ct⟩ σ H := ofPSs (pss_cons (ps_expr peU hs) pssU) h
theorem s_if {c : Expr} {a b : List Stmt} (h : Wt X c σ H fun z H1 => if z = true then Wss X a ⟨fun σ' H' => Wss X rest ⟨nx, rt, bk, ct⟩ σ' H', rt, bk, ct⟩ σ H1 else Wss X b ⟨fun σ' H' => Wss X rest ⟨nx, rt, bk, ct⟩ σ' H', rt, bk, ct⟩ σ H1) :
    Wss X (.If c a b pos :: rest) ⟨nx, rt, bk, ct⟩ σ H := ofPSs (pss_cons (ps_if ptU pssU pssU) pssU) h
theorem s_set (cx : CxI P w K mg base k VL AL GL E X) {x : Str} {e : Expr} {pos' : Pos} (h : We X e σ H fun v H1 => ∃ σ', SetAt x v AL σ σ' ∧ Wss X rest ⟨nx, rt, bk, ct⟩ σ' H1)
    (hs : swapsWith e (some (.Name x pos')) pos.line X.env = pure false := by kernel_rfl) : Wss X (.Assign [.Name x pos'] e pos :: rest) ⟨nx, rt, bk, ct⟩ σ H := by
  refine s_cons fun pins s I => ?_
  refine wpAny_Assign_Name (thn (h pins s I) fun v s1 ⟨y, H1, I1, r1, σ', q0, q1⟩ => ?_) hs
  obtain ⟨i, a, b, l, f⟩ := cx.asg q0
  subst b
  exact store_ok I1 cx.nd a l r1 (fun s2 I2 => ⟨_, H1, I2, q1⟩) f
theorem s_asg {tg e : Expr} (h : We X e σ H fun v H1 => Wg X tg v σ H1 fun σ' H2 => Wss X rest ⟨nx, rt, bk, ct⟩ σ' H2) (hs : swapsWithSole [tg] e pos.line X.env = pure false := by kernel_rfl) (hw : swappedStores [tg] e X.env = pure none := by kernel_rfl)
    (h1 : (assignEach [tg] X.env).map (·.2) = [assign tg X.env] := by kernel_rfl) : Wss X (.Assign [tg] e pos :: rest) ⟨nx, rt, bk, ct⟩ σ H := ofPSs (pss_cons (ps_asg peU pgU hs hw h1) pssU) h
/-! targets -/
theorem g_name (cx : CxI P w K mg base k VL AL GL E X) {x : Str} {v : V} {σ' : St} {R : St → Hp → Prop} (hs : SetAt x v AL σ σ') (h : R σ' H) : Wg X (.Name x pos) v σ H R := by
  obtain ⟨i, a, b, l, f⟩ := cx.asg hs
  subst b
  exact ofPG (pg_name (i := i) cx.nd a l f) h
theorem g_tup (cx : CxI P w K mg base k VL AL GL E X) {es : List Expr} {kk : Nat} {v : V} {R : St → Hp → Prop} {a : Addr} {xs : List V} (hv : v = .ref a) (hx : SqT K H a xs) (hl : xs.length = es.length) (h : Wgs X es xs σ H R)
    (hn : (assignEach es X.env).length = es.length := by kernel_rfl) (hst : (assignEach es X.env).findIdx? (·.1) = none := by kernel_rfl) : Wg X (.Tuple es kk pos) v σ H R := by
  have e1 := cx.eK
  subst e1
  exact ofPG (pg_tup (n := es.length) cx.calm pgsU hn hst) ⟨a, xs, hv, hx, hl, h⟩
theorem gs_nil {R : St → Hp → Prop} (h : R σ H) : Wgs X [] [] σ H R := ofPGs pgs_nil ⟨rfl, h⟩
theorem gs_cons {e : Expr} {es : List Expr} {v : V} {vs : List V} {R : St → Hp → Prop} (h : Wg X e v σ H fun σ' H' => Wgs X es vs σ' H' R) (hs : (assignEach (e :: es) X.env).map (·.2) = assign e X.env :: (assignEach es X.env).map (·.2) := by kernel_rfl) :
    Wgs X (e :: es) (v :: vs) σ H R := ofPGs (pgs_cons pgU pgsU hs) ⟨v, vs, rfl, h⟩
theorem g_sub {o i : Expr} {v : V} {R : St → Hp → Prop} (h : We X o σ H fun x H1 => We X i σ H1 fun y H2 => Wset X x y v H2 fun H3 => R σ H3)
    (ha : ∀ v, assign (.Subscript o i pos) X.env v = (do
      let ov ← holding [v] (eval o X.env)
      let iv ← holding [v, ov] (eval i X.env)
      standAt pos
      holding [v, ov, iv] (setItem ov iv v)
      release [v, ov, iv] []) := by exact (fun _ => by kernel_rfl)) : Wg X (.Subscript o i pos) v σ H R := ofPG (pg_sub peU peU setU ha) h
/-! loops -/
theorem s_for (cx : CxI P w K mg base k VL AL GL E X) {tg iter : Expr} {body : List Stmt}
    (h : Wi X tg iter σ H fun J H1 => ∃ W : Nat → Nat → St → Hp → Prop, (∃ m, W 0 m σ H1) ∧ ∀ i m σ H, W i m σ H → (J.stop i H ∧ Wss X rest ⟨nx, rt, bk, ct⟩ σ H) ∨
      (J.go i H ∧ ∃ N : St → Hp → Prop, (∀ σ' H', N σ' H' → ∃ m', m' < m ∧ W (i + 1) m' σ' H') ∧ ∀ x H', J.yld i H x H' → Wg X tg x σ H' fun σ2 H2 => Wss X body ⟨N, rt, fun σ' H' => Wss X rest ⟨nx, rt, bk, ct⟩ σ' H', N⟩ σ2 H2))
    (hs : ∀ x, foldedSetIterable iter X.env x = pure x := by exact (fun _ => by kernel_rfl)) : Wss X (.For tg iter body [] pos :: rest) ⟨nx, rt, bk, ct⟩ σ H := s_cons (ofPS (ps_for cx.pas cx.calm piU pgU pssU hs) h)
theorem s_while (cx : CxI P w K mg base k VL AL GL E X) {c : Expr} {body : List Stmt}
    (h : ∃ W : Nat → St → Hp → Prop, (∃ m, W m σ H) ∧ ∀ m σ H, W m σ H → Wt X c σ H fun b H1 => if b = true then ∃ N : St → Hp → Prop, (∀ σ' H', N σ' H' → ∃ m', m' < m ∧ W m' σ' H') ∧ Wss X body ⟨N, rt, fun σ' H' => Wss X rest ⟨nx, rt, bk, ct⟩ σ' H', N⟩ σ H1 else Wss X rest ⟨nx, rt, bk, ct⟩ σ H1) :
    Wss X (.While c body [] pos :: rest) ⟨nx, rt, bk, ct⟩ σ H := s_cons (ofPS (ps_while cx.pas ptU pssU) h)
end
end U

/-! U1: what is known of the heap (Kn), stepping rules by values. -/
namespace U
open PySem PySem.Spec L2
open PyProof.Rows hiding St

/-- a dict: may be walked (frozen for the while) -/
def Nfz (o : HO) : Prop := (∃ k, o = .dK k) ∨ ∃ k, o = .dT k
def Sub (I J : Hp) : Prop := ∀ b o, I b = some o → J b = some o ∨ (Nfz o ∧ ∃ od, J b = some (.frz od o))
theorem Sub.rd {I J : Hp} (s : Sub I J) {b : Addr} {o : HO} (h : I b = some o) : Rd J b o := by
  rcases s b o h with z | ⟨_, od, z⟩
  · exact .inl z
  · exact .inr ⟨od, z⟩
/-- R: what is known for good; N: what is owned; L: the dicts that are walked -/
structure KnI (R : Hp → Prop) (N : List (Addr × (HO → Prop))) (L : List (Addr × Obj)) (H I : Hp) : Prop where
  good : ∀ J, Sub I J → R J
  here : ∀ b o, I b = some o → H b = some o ∨ (Nfz o ∧ ∃ od, (b, od) ∈ L ∧ H b = some (.frz od o))
  frz : ∀ b o u, I b = some (.frz o u) → ∃ xs, u = .lst xs
  own : ∀ p ∈ N, I p.1 = none ∧ ∃ o, H p.1 = some o ∧ p.2 o
  nd : (N.map (·.1)).Nodup
  lk : ∀ q ∈ L, ∃ o, I q.1 = some o ∧ H q.1 = some (.frz q.2 o)
  lnd : (L.map (·.1)).Nodup
def Kn (R : Hp → Prop) (N : List (Addr × (HO → Prop))) (L : List (Addr × Obj)) (H : Hp) : Prop := ∃ I, KnI R N L H I
def At (p : Addr) (o : HO) : Hp → Prop := fun J => Rd J p o
def Ex (p : Addr) (o : HO) : Hp → Prop := fun J => J p = some o
def Is (o : HO) : HO → Prop := fun u => u = o
def Cj (B R : Hp → Prop) : Hp → Prop := fun J => B J ∧ R J
def Ent (R B : Hp → Prop) : Prop := ∀ J, R J → B J
def Tr : Hp → Prop := fun _ => True
theorem Ent.h {B R : Hp → Prop} : Ent (Cj B R) B := fun _ h => h.1
theorem Ent.t {B C R : Hp → Prop} (e : Ent R B) : Ent (Cj C R) B := fun J h => e J h.2
theorem Ent.r {R : Hp → Prop} : Ent R R := fun _ h => h
theorem Ent.cj {B C R : Hp → Prop} (a : Ent R B) (b : Ent R C) : Ent R (Cj B C) := fun J h => ⟨a J h, b J h⟩
theorem Ent.trans {A B C : Hp → Prop} (a : Ent A B) (b : Ent B C) : Ent A C := fun J h => b J (a J h)
/-- an entry of N, an entry of N changed, taken out -/
inductive Has (a : Addr) (A : HO → Prop) : List (Addr × (HO → Prop)) → Prop
  | h {N} : Has a A ((a, A) :: N)
  | t {y N} : Has a A N → Has a A (y :: N)
inductive Put (a : Addr) (A A' : HO → Prop) : List (Addr × (HO → Prop)) → List (Addr × (HO → Prop)) → Prop
  | h {N} : Put a A A' ((a, A) :: N) ((a, A') :: N)
  | t {y N N'} : Put a A A' N N' → Put a A A' (y :: N) (y :: N')
inductive Take (a : Addr) (A : HO → Prop) : List (Addr × (HO → Prop)) → List (Addr × (HO → Prop)) → Prop
  | h {N} : Take a A ((a, A) :: N) N
  | t {y N N'} : Take a A N N' → Take a A (y :: N) (y :: N')
theorem lk_upd {I H : Hp} {L : List (Addr × Obj)} {a : Addr} {u : HO} (lk : ∀ q ∈ L, ∃ o, I q.1 = some o ∧ H q.1 = some (.frz q.2 o)) (na : I a = none) : ∀ q ∈ L, ∃ o, I q.1 = some o ∧ upd H a u q.1 = some (.frz q.2 o) := fun q hq => by
  obtain ⟨o, i, h⟩ := lk q hq
  have ne : q.1 ≠ a := fun z => by rw [z, na] at i; cases i
  exact ⟨o, i, by rw [upd_ne ne]; exact h⟩
theorem lk_updI {I H : Hp} {L : List (Addr × Obj)} {a : Addr} {u : HO} (lk : ∀ q ∈ L, ∃ o, I q.1 = some o ∧ H q.1 = some (.frz q.2 o)) (na : I a = none) : ∀ q ∈ L, ∃ o, upd I a u q.1 = some o ∧ H q.1 = some (.frz q.2 o) := fun q hq => by
  obtain ⟨o, i, h⟩ := lk q hq
  have ne : q.1 ≠ a := fun z => by rw [z, na] at i; cases i
  exact ⟨o, by rw [upd_ne ne]; exact i, h⟩
section
variable {R B : Hp → Prop} {N N' : List (Addr × (HO → Prop))} {L : List (Addr × Obj)} {H : Hp} {a p : Addr} {A A' : HO → Prop} {o : HO}
theorem Sub.refl (I : Hp) : Sub I I := fun _ _ h => .inl h
theorem KnI.sub {I : Hp} (k : KnI R N L H I) : Sub I H := fun b o e => by
  rcases k.here b o e with h | ⟨n, od, _, h⟩
  · exact .inl h
  · exact .inr ⟨n, od, h⟩
theorem Kn.get (k : Kn R N L H) (e : Ent R B) : B H := by
  obtain ⟨I, k⟩ := k
  exact e _ (k.good H k.sub)
theorem Kn.rd (k : Kn R N L H) (e : Ent R (At p o)) : Rd H p o := k.get e
theorem Kn.weak (k : Kn R N L H) (e : Ent R B) : Kn B N L H := by
  obtain ⟨I, k⟩ := k
  exact ⟨I, fun J s => e _ (k.good J s), k.here, k.frz, k.own, k.nd, k.lk, k.lnd⟩
theorem Kn.add (k : Kn R N L H) (e : Ent R B) : Kn (Cj B R) N L H := k.weak (e.cj Ent.r)
theorem Has.mem (h : Has a A N) : (a, A) ∈ N := by
  induction h with
  | h => exact List.mem_cons_self
  | t _ ih => exact List.mem_cons_of_mem _ ih
theorem Kn.has (k : Kn R N L H) (h : Has a A N) : ∃ o, H a = some o ∧ A o := by
  obtain ⟨I, k⟩ := k
  exact (k.own _ h.mem).2
theorem Kn.is (k : Kn R N L H) (h : Has a (Is o) N) : H a = some o := by
  obtain ⟨u, e, rfl⟩ := k.has h
  exact e
theorem Put.has (h : Put a A A' N N') : Has a A N := by
  induction h with
  | h => exact .h
  | t _ ih => exact .t ih
theorem Take.has (h : Take a A N N') : Has a A N := by
  induction h with
  | h => exact .h
  | t _ ih => exact .t ih
theorem Put.keys (h : Put a A A' N N') : N'.map (·.1) = N.map (·.1) := by
  induction h with
  | h => rfl
  | t _ ih => simp [ih]
theorem Put.mem (h : Put a A A' N N') : ∀ q ∈ N', q = (a, A') ∨ q ∈ N := by
  induction h with
  | h => intro q hq; rcases List.mem_cons.mp hq with e | e <;> simp [e]
  | t _ ih =>
    intro q hq
    rcases List.mem_cons.mp hq with e | e
    · simp [e]
    · rcases ih q e with z | z <;> simp [z]
theorem Put.mem' (h : Put a A A' N N') (nd : (N.map (·.1)).Nodup) : ∀ q ∈ N', q = (a, A') ∨ (q ∈ N ∧ q.1 ≠ a) := by
  induction h with
  | @h N =>
    intro q hq
    rcases List.mem_cons.mp hq with e | e
    · exact .inl e
    · refine .inr ⟨List.mem_cons_of_mem _ e, fun z => ?_⟩
      have nd' : (a :: N.map (·.1)).Nodup := nd
      have := (List.nodup_cons.mp nd').1
      exact this (by rw [← z]; exact List.mem_map_of_mem e)
  | @t y N N' hp ih =>
    intro q hq
    have nd' : (y.1 :: N.map (·.1)).Nodup := nd
    rcases List.mem_cons.mp hq with e | e
    · subst e
      refine .inr ⟨List.mem_cons_self, fun z => ?_⟩
      exact (List.nodup_cons.mp nd').1 (by rw [z]; exact List.mem_map_of_mem (f := (·.1)) hp.has.mem)
    · rcases ih (List.nodup_cons.mp nd').2 q e with z | z
      · exact .inl z
      · exact .inr ⟨List.mem_cons_of_mem _ z.1, z.2⟩
theorem Take.mem' (h : Take a A N N') (nd : (N.map (·.1)).Nodup) : (∀ q ∈ N', q ∈ N ∧ q.1 ≠ a) ∧ (N'.map (·.1)).Nodup := by
  induction h with
  | @h N =>
    have nd' : (a :: N.map (·.1)).Nodup := nd
    refine ⟨fun q hq => ⟨List.mem_cons_of_mem _ hq, fun z => ?_⟩, (List.nodup_cons.mp nd').2⟩
    exact (List.nodup_cons.mp nd').1 (by rw [← z]; exact List.mem_map_of_mem hq)
  | @t y N N' hp ih =>
    have nd' : (y.1 :: N.map (·.1)).Nodup := nd
    obtain ⟨m, n⟩ := ih (List.nodup_cons.mp nd').2
    refine ⟨fun q hq => ?_, ?_⟩
    · rcases List.mem_cons.mp hq with e | e
      · subst e
        refine ⟨List.mem_cons_self, fun z => ?_⟩
        exact (List.nodup_cons.mp nd').1 (by rw [z]; exact List.mem_map_of_mem (f := (·.1)) hp.has.mem)
      · exact ⟨List.mem_cons_of_mem _ (m q e).1, (m q e).2⟩
    · rw [List.map_cons]
      refine List.nodup_cons.mpr ⟨fun z => ?_, n⟩
      obtain ⟨q, hq, e⟩ := List.mem_map.mp z
      exact (List.nodup_cons.mp nd').1 (by rw [← e]; exact List.mem_map_of_mem (f := (·.1)) (m q hq).1)
/-- an owned entry is known less well -/
theorem Kn.imp (k : Kn R N L H) (h : Put a A A' N N') (i : ∀ o, A o → A' o) : Kn R N' L H := by
  obtain ⟨I, k⟩ := k
  refine ⟨I, k.good, k.here, k.frz, fun q hq => ?_, by rw [h.keys]; exact k.nd, k.lk, k.lnd⟩
  rcases h.mem q hq with e | e
  · subst e
    obtain ⟨n, o, e, z⟩ := k.own _ h.has.mem
    exact ⟨n, o, e, i _ z⟩
  · exact k.own q e
/-- an owned object is written -/
theorem Kn.write (k : Kn R N L H) (h : Put a A A' N N') (i : A' o) : Kn R N' L (upd H a o) := by
  obtain ⟨I, k⟩ := k
  have na := (k.own _ h.has.mem).1
  refine ⟨I, k.good, fun b u e => ?_, k.frz, fun q hq => ?_, by rw [h.keys]; exact k.nd, lk_upd k.lk na, k.lnd⟩
  · have nb : b ≠ a := fun z => by subst z; rw [na] at e; cases e
    rw [upd_ne nb]; exact k.here b u e
  · rcases h.mem' k.nd q hq with e | ⟨e, ne⟩
    · subst e
      exact ⟨na, o, upd_same, i⟩
    · rw [upd_ne ne]; exact k.own q e
/-- a new object, owned -/
theorem Kn.new (k : Kn R N L H) (hp : H p = none) (i : A o) : Kn R ((p, A) :: N) L (upd H p o) := by
  obtain ⟨I, k⟩ := k
  have np : I p = none := by
    cases e : I p with
    | none => rfl
    | some u => rcases k.here p u e with z | ⟨_, _, _, z⟩ <;> (rw [hp] at z; cases z)
  have ne : ∀ q ∈ N, q.1 ≠ p := fun q hq z => by
    obtain ⟨_, u, e, _⟩ := k.own q hq
    rw [z, hp] at e; cases e
  refine ⟨I, k.good, fun b u e => ?_, k.frz, fun q hq => ?_, ?_, lk_upd k.lk np, k.lnd⟩
  · have nb : b ≠ p := fun z => by subst z; rw [np] at e; cases e
    rw [upd_ne nb]; exact k.here b u e
  · rcases List.mem_cons.mp hq with e | e
    · subst e; exact ⟨np, o, upd_same, i⟩
    · rw [upd_ne (ne q e)]; exact k.own q e
  · rw [List.map_cons]
    refine List.nodup_cons.mpr ⟨fun z => ?_, k.nd⟩
    obtain ⟨q, hq, e⟩ := List.mem_map.mp z
    exact ne q hq e
/-- a new object that nobody tells of -/
theorem Kn.junk (k : Kn R N L H) (hp : H p = none) : Kn R N L (upd H p o) := by
  obtain ⟨I, k⟩ := k.new (A := fun _ => True) (o := o) hp trivial
  exact ⟨I, k.good, k.here, k.frz, fun q hq => k.own q (List.mem_cons_of_mem _ hq), (List.nodup_cons.mp (by simpa using k.nd)).2, k.lk, k.lnd⟩
/-- an owned object is given to the known ones -/
theorem Kn.give (k : Kn R N L H) (h : Take a A N N') (nf : ∀ o u v, A o → o ≠ .frz u v) : Kn (Cj (fun J => ∃ o, A o ∧ At a o J) R) N' L H := by
  obtain ⟨I, k⟩ := k
  obtain ⟨na, o, ha, ao⟩ := k.own _ h.has.mem
  obtain ⟨m, n⟩ := h.mem' k.nd
  have na : I a = none := na
  refine ⟨upd I a o, fun J s => ⟨⟨o, ao, s.rd upd_same⟩, k.good J fun b u e => s b u ?_⟩, fun b u e => ?_, fun b u v e => ?_, fun q hq => ?_, n, lk_updI k.lk na, k.lnd⟩
  · have nb : b ≠ a := fun z => by subst z; rw [na] at e; cases e
    rw [upd_ne nb]; exact e
  · by_cases nb : b = a
    · subst nb; rw [upd_same] at e; cases e; exact .inl ha
    · rw [upd_ne nb] at e; exact k.here b u e
  · by_cases nb : b = a
    · subst nb; rw [upd_same] at e; cases e; exact absurd rfl (nf _ _ _ ao)
    · rw [upd_ne nb] at e; exact k.frz b u v e
  · obtain ⟨x, ne⟩ := m q hq
    rw [upd_ne ne]; exact k.own q x
theorem Kn.give1 (k : Kn R N L H) (h : Take a (Is o) N N') (nf : ∀ u v, o ≠ .frz u v) : Kn (Cj (At a o) R) N' L H :=
  (k.give h (fun x u v e z => by cases e; exact nf u v z)).weak fun J z => ⟨by obtain ⟨⟨x, ex, hx⟩, _⟩ := z; cases ex; exact hx, z.2⟩
theorem Kn.newI (k : Kn R N L H) (hp : H p = none) (nf : ∀ u v, o ≠ .frz u v) : Kn (Cj (At p o) R) N L (upd H p o) := (k.new (A := Is o) hp rfl).give1 .h nf
/-- .. one that is no dict: it stands exactly so -/
theorem Kn.newX (k : Kn R N L H) (hp : H p = none) (nd : ¬ Nfz o) (nf : ∀ u v, o ≠ .frz u v) : Kn (Cj (Ex p o) R) N L (upd H p o) := by
  obtain ⟨I, k⟩ := k
  have np : I p = none := by
    cases e : I p with
    | none => rfl
    | some u => rcases k.here p u e with z | ⟨_, _, _, z⟩ <;> (rw [hp] at z; cases z)
  refine ⟨upd I p o, fun J s => ⟨?_, k.good J fun b u e => s b u ?_⟩, fun b u e => ?_, fun b u v e => ?_, fun q hq => ?_, k.nd, lk_updI (lk_upd k.lk np) np, k.lnd⟩
  · rcases s p o upd_same with z | ⟨n, _⟩
    · exact z
    · exact absurd n nd
  · have nb : b ≠ p := fun z => by subst z; rw [np] at e; cases e
    rw [upd_ne nb]; exact e
  · by_cases nb : b = p
    · subst nb; rw [upd_same] at e; cases e; exact .inl upd_same
    · rw [upd_ne nb] at e ⊢; exact k.here b u e
  · by_cases nb : b = p
    · subst nb; rw [upd_same] at e; cases e; exact absurd rfl (nf _ _)
    · rw [upd_ne nb] at e; exact k.frz b u v e
  · obtain ⟨n, u, x, y⟩ := k.own q hq
    have ne : q.1 ≠ p := fun z => by rw [z, hp] at x; cases x
    rw [upd_ne ne, upd_ne ne]; exact ⟨n, u, x, y⟩
/-- .. an owned one that is no dict -/
theorem Kn.giveX (k : Kn R N L H) (h : Take a A N N') (nf : ∀ o u v, A o → o ≠ .frz u v) (nd : ∀ o, A o → ¬ Nfz o) : Kn (Cj (fun J => ∃ o, A o ∧ Ex a o J) R) N' L H := by
  obtain ⟨I, k⟩ := k
  obtain ⟨na, o, ha, ao⟩ := k.own _ h.has.mem
  obtain ⟨m, n⟩ := h.mem' k.nd
  have na : I a = none := na
  refine ⟨upd I a o, fun J s => ⟨⟨o, ao, ?_⟩, k.good J fun b u e => s b u ?_⟩, fun b u e => ?_, fun b u v e => ?_, fun q hq => ?_, n, lk_updI k.lk na, k.lnd⟩
  · rcases s a o upd_same with z | ⟨n, _⟩
    · exact z
    · exact absurd n (nd o ao)
  · have nb : b ≠ a := fun z => by subst z; rw [na] at e; cases e
    rw [upd_ne nb]; exact e
  · by_cases nb : b = a
    · subst nb; rw [upd_same] at e; cases e; exact .inl ha
    · rw [upd_ne nb] at e; exact k.here b u e
  · by_cases nb : b = a
    · subst nb; rw [upd_same] at e; cases e; exact absurd rfl (nf _ _ _ ao)
    · rw [upd_ne nb] at e; exact k.frz b u v e
  · obtain ⟨x, ne⟩ := m q hq
    rw [upd_ne ne]; exact k.own q x
theorem Kn.giveL {xs : List V} (k : Kn R N L H) (h : Take a (Is (.lst xs)) N N') : Kn (Cj (Ex a (.lst xs)) R) N' L H :=
  (k.giveX h (fun x u v e z => by cases e; cases z) (fun x e n => by cases e; rcases n with ⟨k, z⟩ | ⟨k, z⟩ <;> cases z)).weak fun J z => ⟨by obtain ⟨⟨x, ex, hx⟩, _⟩ := z; cases ex; exact hx, z.2⟩
/-- the first owned object is looked at -/
theorem Kn.open1 {M : List (Addr × (HO → Prop))} (k : Kn R ((a, A) :: M) L H) : ∃ o, A o ∧ Kn R ((a, Is o) :: M) L H := by
  obtain ⟨I, k⟩ := k
  obtain ⟨n, o, e, z⟩ := k.own _ List.mem_cons_self
  refine ⟨o, z, I, k.good, k.here, k.frz, fun q hq => ?_, k.nd, k.lk, k.lnd⟩
  rcases List.mem_cons.mp hq with y | y
  · subst y; exact ⟨n, o, e, rfl⟩
  · exact k.own q (List.mem_cons_of_mem _ y)
theorem Kn.drop1 {x} (k : Kn R (x :: N) L H) : Kn R N L H := by
  obtain ⟨I, k⟩ := k
  exact ⟨I, k.good, k.here, k.frz, fun q hq => k.own q (List.mem_cons_of_mem _ hq), (List.nodup_cons.mp (by simpa using k.nd)).2, k.lk, k.lnd⟩
theorem Kn.take (k : Kn R N L H) (h : Take a A N N') : Kn R N' L H := by
  obtain ⟨I, k⟩ := k
  obtain ⟨m, n⟩ := h.mem' k.nd
  exact ⟨I, k.good, k.here, k.frz, fun q hq => k.own q (m q hq).1, n, k.lk, k.lnd⟩
/-- an object that is known for good stands there unfrozen, if it is not walked -/
theorem Kn.at_ (k : Kn R N L H) (e : Ent R (At p o)) (hl : p ∉ L.map (·.1)) (dc : Nfz o) : H p = some o := by
  have nl : ∀ xs, o ≠ .lst xs := fun xs z => by rcases dc with ⟨k, e⟩ | ⟨k, e⟩ <;> (rw [e] at z; cases z)
  obtain ⟨I, k⟩ := k
  rcases e I (k.good I (Sub.refl I)) with h | ⟨u, h⟩
  · rcases k.here p o h with z | ⟨_, od, z, _⟩
    · exact z
    · exact absurd (List.mem_map_of_mem (f := (·.1)) z) hl
  · obtain ⟨xs, z⟩ := k.frz p u o h
    exact absurd z (nl xs)
/-- a known dict is locked, unlocked -/
theorem Kn.lock {od : Obj} (k : Kn R N L H) (e : Ent R (At p o)) (hl : p ∉ L.map (·.1)) (nf : Nfz o) : Kn R N ((p, od) :: L) (upd H p (.frz od o)) := by
  have nl : ∀ xs, o ≠ .lst xs := fun xs z => by rcases nf with ⟨k, e⟩ | ⟨k, e⟩ <;> (rw [e] at z; cases z)
  obtain ⟨I, k⟩ := k
  have hI : I p = some o := by
    rcases e I (k.good I (Sub.refl I)) with h | ⟨u, h⟩
    · exact h
    · obtain ⟨xs, z⟩ := k.frz p u o h
      exact absurd z (nl xs)
  refine ⟨I, k.good, fun b u h => ?_, k.frz, fun q hq => ?_, k.nd, fun q hq => ?_, by simpa using ⟨by simpa using hl, k.lnd⟩⟩
  · by_cases nb : b = p
    · subst nb; rw [hI] at h; cases h; exact .inr ⟨nf, od, List.mem_cons_self, upd_same⟩
    · rw [upd_ne nb]
      rcases k.here b u h with z | ⟨n, d, z, z2⟩
      · exact .inl z
      · exact .inr ⟨n, d, List.mem_cons_of_mem _ z, z2⟩
  · obtain ⟨n, u, x, y⟩ := k.own q hq
    have ne : q.1 ≠ p := fun z => by rw [z, hI] at n; cases n
    rw [upd_ne ne]; exact ⟨n, u, x, y⟩
  · rcases List.mem_cons.mp hq with z | z
    · subst z
      exact ⟨o, hI, upd_same⟩
    · obtain ⟨o', i, h⟩ := k.lk q z
      have ne : q.1 ≠ p := fun y => hl (by rw [← y]; exact List.mem_map_of_mem (f := (·.1)) z)
      exact ⟨o', i, by rw [upd_ne ne]; exact h⟩
theorem Kn.frz_ {od : Obj} (k : Kn R N ((p, od) :: L) H) (e : Ent R (At p o)) (nf : Nfz o) : H p = some (.frz od o) := by
  have nl : ∀ xs, o ≠ .lst xs := fun xs z => by rcases nf with ⟨k, e⟩ | ⟨k, e⟩ <;> (rw [e] at z; cases z)
  obtain ⟨I, k⟩ := k
  have hI : I p = some o := by
    rcases e I (k.good I (Sub.refl I)) with h | ⟨u, h⟩
    · exact h
    · obtain ⟨xs, z⟩ := k.frz p u o h
      exact absurd z (nl xs)
  obtain ⟨o', i, h⟩ := k.lk (p, od) List.mem_cons_self
  rw [show I p = some o from hI] at i
  cases i
  exact h
theorem Kn.unlock {od : Obj} (k : Kn R N ((p, od) :: L) H) (e : Ent R (At p o)) (nf : Nfz o) : Kn R N L (upd H p o) := by
  have nl : ∀ xs, o ≠ .lst xs := fun xs z => by rcases nf with ⟨k, e⟩ | ⟨k, e⟩ <;> (rw [e] at z; cases z)
  obtain ⟨I, k⟩ := k
  have hI : I p = some o := by
    rcases e I (k.good I (Sub.refl I)) with h | ⟨u, h⟩
    · exact h
    · obtain ⟨xs, z⟩ := k.frz p u o h
      exact absurd z (nl xs)
  have lnd : (p :: L.map (·.1)).Nodup := k.lnd
  refine ⟨I, k.good, fun b u hb => ?_, k.frz, fun q hq => ?_, k.nd, fun q hq => ?_, (List.nodup_cons.mp lnd).2⟩
  · by_cases nb : b = p
    · subst nb; rw [hI] at hb; cases hb; exact .inl upd_same
    · rw [upd_ne nb]
      rcases k.here b u hb with z | ⟨n, d, z, z2⟩
      · exact .inl z
      · rcases List.mem_cons.mp z with z | z
        · cases z; exact absurd rfl nb
        · exact .inr ⟨n, d, z, z2⟩
  · obtain ⟨n, u, x, y⟩ := k.own q hq
    have ne : q.1 ≠ p := fun z => by rw [z, hI] at n; cases n
    rw [upd_ne ne]; exact ⟨n, u, x, y⟩
  · obtain ⟨o', i, h⟩ := k.lk q (List.mem_cons_of_mem _ hq)
    have ne : q.1 ≠ p := fun y => (List.nodup_cons.mp lnd).1 (by rw [← y]; exact List.mem_map_of_mem (f := (·.1)) hq)
    exact ⟨o', i, by rw [upd_ne ne]; exact h⟩
theorem Kn.perm {M : List (Addr × (HO → Prop))} (k : Kn R N L H) (p : ∀ q ∈ M, q ∈ N) (nd : (N.map (·.1)).Nodup → (M.map (·.1)).Nodup) : Kn R M L H := by
  obtain ⟨I, k⟩ := k
  exact ⟨I, k.good, k.here, k.frz, fun q hq => k.own q (p q hq), nd k.nd, k.lk, k.lnd⟩
/-- the entry at hand is taken to the front, put back -/
theorem Put.focus (h : Put a A A' N N') : ∃ M, (∀ R L H, Kn R N L H → Kn R ((a, A) :: M) L H) ∧ ∀ R L H, Kn R ((a, A') :: M) L H → Kn R N' L H := by
  have key : ∃ M, (∀ q, q ∈ (a, A) :: M ↔ q ∈ N) ∧ (∀ q, q ∈ (a, A') :: M ↔ q ∈ N') ∧ (((a, A) :: M).map (·.1)).Perm (N.map (·.1)) ∧ (((a, A') :: M).map (·.1)).Perm (N'.map (·.1)) := by
    induction h with
    | @h N => exact ⟨N, fun q => Iff.rfl, fun q => Iff.rfl, .refl _, .refl _⟩
    | @t y N N' _ ih =>
      obtain ⟨M, a1, a2, a3, a4⟩ := ih
      refine ⟨y :: M, fun q => ?_, fun q => ?_, ?_, ?_⟩
      · rw [List.mem_cons, List.mem_cons, List.mem_cons, ← a1 q, List.mem_cons]
        constructor <;> (intro h; rcases h with h | h | h <;> simp [h])
      · rw [List.mem_cons, List.mem_cons, List.mem_cons, ← a2 q, List.mem_cons]
        constructor <;> (intro h; rcases h with h | h | h <;> simp [h])
      · have z : (y.1 :: a :: M.map (fun x => x.1)).Perm (y.1 :: (N).map (fun x => x.1)) := List.Perm.cons y.1 a3
        exact (List.Perm.swap y.1 a (M.map (fun x => x.1))).trans z
      · have z : (y.1 :: a :: M.map (fun x => x.1)).Perm (y.1 :: (N').map (fun x => x.1)) := List.Perm.cons y.1 a4
        exact (List.Perm.swap y.1 a (M.map (fun x => x.1))).trans z
  obtain ⟨M, a1, a2, a3, a4⟩ := key
  exact ⟨M, fun R L H k => k.perm (fun q hq => (a1 q).mp hq) fun nd => a3.nodup_iff.mpr nd, fun R L H k => k.perm (fun q hq => (a2 q).mpr hq) fun nd => a4.nodup_iff.mp nd⟩
theorem Kn.start {K : PySem.W.Frag} {xs : List V} (h : SqL K H a xs) : Kn (fun J => SqL K J a xs) [] [] H := by
  rcases h with (h | ⟨o, h⟩) | h
  · refine ⟨fun b => if b = a then some (.lst xs) else none, fun J s => .inl (s.rd (if_pos rfl)), fun b o e => ?_, fun b o u e => ?_, fun q hq => absurd hq (by simp), by simp, fun q hq => absurd hq (by simp), by simp⟩
    · split at e
      · rename_i z; subst z; cases e; exact .inl h
      · cases e
    · split at e
      · cases e
      · cases e
  · refine ⟨fun b => if b = a then some (.frz o (.lst xs)) else none, fun J s => ?_, fun b u e => ?_, fun b p u e => ?_, fun q hq => absurd hq (by simp), by simp, fun q hq => absurd hq (by simp), by simp⟩
    · rcases s a _ (if_pos rfl) with z | ⟨n, p, z⟩
      · exact .inl (.inr ⟨o, z⟩)
      · rcases n with ⟨k, e⟩ | ⟨k, e⟩ <;> cases e
    · split at e
      · rename_i z; subst z; cases e; exact .inl h
      · cases e
    · split at e
      · cases e; exact ⟨xs, rfl⟩
      · cases e
  · exact ⟨fun _ => none, ⟨fun J s => .inr h, fun b o e => (nomatch e), fun b o u e => (nomatch e), fun q hq => absurd hq (by simp), by simp, fun q hq => absurd hq (by simp), by simp⟩⟩
end
end U

/-! U2: defs, calls, operators by values. -/
namespace U
open PySem PySem.Spec L2
open PyProof.Rows hiding St

section
variable {P : Program} {w : World} {K : PySem.W.Frag} {mg : Str → Option Value} {base : Heap}
/-! ### defs -/
/-- the work around a call: room, and no text of a thing under way -/
structure RmG (k : Nat) (A : Around) : Prop where
  rm : Room k A
  gd : A.guards = some []
theorem RmG.mono {j k : Nat} {A : Around} (r : RmG k A) (h : j ≤ k) : RmG j A := ⟨r.rm.mono h, r.gd⟩
theorem gd_deeper {A : Around} {env : Env} (h : A.guards = some []) : (A.deeper env).guards = some [] := h
theorem gd_in1 {A : Around} (h : A.guards = some []) : A.in1.guards = some [] := h
theorem RmG.in1 {k : Nat} {A : Around} (r : RmG (k + 1) A) : RmG k A.in1 := ⟨r.rm.in1, gd_in1 r.gd⟩
theorem gd_make {A : Around} {C : Addr} {us : List Value} {kw : List (Str × Value)} (h : A.guards = some []) : (A.under (.builtin "type.__call__" ⟨.ref C :: us, kw⟩)).guards = some [] := by
  have e : (Code.builtin "type.__call__" ⟨.ref C :: us, kw⟩).guards = [] := by kernel_rfl
  show pushGuards (Code.builtin "type.__call__" ⟨.ref C :: us, kw⟩).guards A.guards = some []
  rw [e, h]
  rfl
theorem RmG.make {k : Nat} {A : Around} (r : RmG (k + 1) A) (C : Addr) (us : List Value) (kw : List (Str × Value)) : RmG k (A.under (.builtin "type.__call__" ⟨.ref C :: us, kw⟩)) := ⟨r.rm.make C us kw, gd_make r.gd⟩
/-- what a def promises, wherever no text of a thing is under way -/
structure Fk (P : Program) (w : World) (K : PySem.W.Frag) (mg : Str → Option Value) (base : Heap) (j : Nat) (f : Addr) (fd : FuncData) (ps : List Str) (sp : Sp) : Prop where
  len : ∀ vs H Q E, sp vs H Q E → vs.length = ps.length
  run : ∀ (A : Around) (outer : List Env) (s : Shared) (H : Hp) (args : Args) (us : List Value) (vs : List V) (Q : VK) (E : XK), RmG j A → Env0 P w K mg base A outer s H → BindsTo s fd args (ps.zip us) → Vals vs us → sp vs H Q E →
    codeAny (model P w) A (.call (.ref f) args) (CR (L2.CX P w) outer P w H s Q E) s
theorem Fk.mono {i j : Nat} {f : Addr} {fd : FuncData} {ps : List Str} {sp : Sp} (F : Fk P w K mg base i f fd ps sp) (h : i ≤ j) : Fk P w K mg base j f fd ps sp := ⟨F.len, fun A o s H ar us vs Q E r => F.run A o s H ar us vs Q E (r.mono h)⟩
/-- the names of a body, for the comprehensions in it -/
structure CxN (N : List Str) (ns : List (Str × NameKind)) (X : Cx) : Prop where
  n : X.N = N
  ns : X.env.scope.names = ns
  kd : X.env.scope.kind = .function
/-- a def's own frame (for try) -/
structure CxT (X : Cx) : Prop where
  stk : X.stack = X.env :: X.outer
  frm : X.env.frame = some X.env.locals
theorem fn_okT {x qual : Str} {st : Stmt} {f : Addr} {fd : FuncData} {N ps : List Str} {k : Nat} {sp : Sp} {ns : List (Str × NameKind)} {VL : List (Option Str)} {GL : List Str} (F : Fun K x qual st f fd) (S : FnScope N ps (defScope st)) (hns : (defScope st).names = ns)
    (ok : okAll N ns VL VL GL = true) (hbl : ∀ x ∈ blts, mg x = none) (len : ∀ vs H Q E, sp vs H Q E → vs.length = ps.length)
    (h : ∀ (X : Cx) (H : Hp) (vs : List V) (Q : VK) (E : XK), CxI P w K mg base k VL VL GL (fun c d _ H' => E c d H') X → CxN N ns X → CxT X → sp vs H Q E → Wss X (defBody st) ⟨fun _ H' => Q .non H', Q, fun _ _ => False, fun _ _ => False⟩ (start N vs) H) : Fk P w K mg base (k + 1) f fd ps sp := by
  refine ⟨len, fun A outer s H args us vs Q E hr env hbind rel hs => ?_⟩
  obtain ⟨oc, od, kV, doc, pm, an, cdv, ct, osl, efd, look, hcode⟩ := F.ex
  subst efd
  have inK : K.In s.heap := env.mod.kin.keeps fun b o e => (env.bs b o e).1
  have loc : ∀ y ∈ ps.zip us, (defScope st).names.lookup y.1 = some .local ∨ ((defScope st).names.lookup y.1 = some .cell ∧ ((cellsFrom (s.heap.objs.size + 1) (defScope st).names []).lookup y.1).isSome = true) := by
    intro y hy
    have my : y.1 ∈ ps := (List.of_mem_zip (show (y.1, y.2) ∈ ps.zip us from hy)).1
    exact (S.par y.1 my).imp id fun c => ⟨c, PySem.W.cellsFrom_some _ _ _ (.inl c)⟩
  refine codeAny_call_function hr.rm.depth (inK _ _ look) rfl S.co S.gen rfl (PySem.W.codeRec_of inK hcode) (hbind _ _ _ _ ?_)
  refine wpAny_newFunctionEnv_cells S.kind loc fun env1 eenv t inC => ?_
  subst eenv
  refine ⟨(env.mod.nolimit.keeps fun b o e => (env.bs b o e).1).keeps inC.toInCall.keep, codeAny_func ?_⟩
  let X := cxOf (L2.CX P w) P w K mg base N qual (defScope st) f cdv A outer s H E
  have I : Inv X [] (start N vs) H t := inv_start S hr.rm.hd env (len _ _ _ _ hs) rel inC
  have cx : CxI P w K mg base k VL VL GL (fun c d _ H' => E c d H') X := ⟨rfl, rfl, rfl, rfl, rfl, S.nd, by subst hns; exact ok, fun _ => .inl rfl, hr.rm.deeper _, gd_deeper hr.gd, rfl, passes_of rfl, takes_of rfl rfl rfl rfl, hbl⟩
  have done : ∀ {σ' : St} {H' : Hp} {v : V} {u : Value} {t' : Shared}, Inv X [] σ' H' t' → RelV v u → Q v H' → CE outer P w H s Q u t' := fun J rv q => ⟨_, _, J.os, J.bare, J.base, J.hok, rv, q⟩
  refine wpAny_mono (h X H vs Q E cx ⟨rfl, hns, S.kind⟩ ⟨rfl, rfl⟩ hs [] t I) (fun fl t' q => ?_) fun _ _ q => q
  cases fl with
  | next =>
    obtain ⟨σ', H', J, q⟩ := q
    exact done (v := V.non) (u := Value.none) J rfl q
  | ret u =>
    obtain ⟨v, σ', H', J, rv, q⟩ := q
    exact done J rv q
  | brk =>
    obtain ⟨_, _, _, q⟩ := q
    exact q.elim
  | cont =>
    obtain ⟨_, _, _, q⟩ := q
    exact q.elim
theorem fn_okC {x qual : Str} {st : Stmt} {f : Addr} {fd : FuncData} {N ps : List Str} {k : Nat} {sp : Sp} {ns : List (Str × NameKind)} {VL : List (Option Str)} {GL : List Str} (F : Fun K x qual st f fd) (S : FnScope N ps (defScope st)) (hns : (defScope st).names = ns)
    (ok : okAll N ns VL VL GL = true) (hbl : ∀ x ∈ blts, mg x = none) (len : ∀ vs H Q E, sp vs H Q E → vs.length = ps.length)
    (h : ∀ (X : Cx) (H : Hp) (vs : List V) (Q : VK) (E : XK), CxI P w K mg base k VL VL GL (fun c d _ H' => E c d H') X → CxN N ns X → sp vs H Q E → Wss X (defBody st) ⟨fun _ H' => Q .non H', Q, fun _ _ => False, fun _ _ => False⟩ (start N vs) H) : Fk P w K mg base (k + 1) f fd ps sp :=
  fn_okT F S hns ok hbl len fun X H vs Q E cx cn _ hs => h X H vs Q E cx cn hs
theorem fn_okW {x qual : Str} {st : Stmt} {f : Addr} {fd : FuncData} {N ps : List Str} {k : Nat} {sp : Sp} {ns : List (Str × NameKind)} {VL : List (Option Str)} {GL : List Str} (F : Fun K x qual st f fd) (S : FnScope N ps (defScope st)) (hns : (defScope st).names = ns)
    (ok : okAll N ns VL VL GL = true) (hbl : ∀ x ∈ blts, mg x = none) (len : ∀ vs H Q E, sp vs H Q E → vs.length = ps.length)
    (h : ∀ (X : Cx) (H : Hp) (vs : List V) (Q : VK) (E : XK), CxI P w K mg base k VL VL GL (fun c d _ H' => E c d H') X → sp vs H Q E → Wss X (defBody st) ⟨fun _ H' => Q .non H', Q, fun _ _ => False, fun _ _ => False⟩ (start N vs) H) : Fk P w K mg base (k + 1) f fd ps sp :=
  fn_okC F S hns ok hbl len fun X H vs Q E cx _ hs => h X H vs Q E cx hs
/-- a def is run from a body, under work of its own -/
theorem Fk.go {X : Cx} {pins : List (Addr × Obj)} {σ : St} {H : Hp} {s : Shared} {Q : VK} {E : XK} {A : Around} {E' : Value → Shared → Prop} {j : Nat} {f : Addr} {fd : FuncData} {ps : List Str} {sp : Sp} {args : Args} {us : List Value} {vs : List V}
    (F : Fk X.prog X.w X.K X.mg X.base j f fd ps sp) (hA : A.frames = some X.stack) (hr : RmG j A) (I : Inv X pins σ H s) (hb : BindsTo s fd args (ps.zip us)) (r : Vals vs us) (h : sp vs H Q E) (hx : ∀ e s', L2.CX X.prog X.w X.stack H s E e s' → E' e s') :
    codeAny (model X.prog X.w) A (.call (.ref f) args) (fun r s' => match r with | .ok (.ret u) => EP X pins σ Q u s' | .ok _ => False | .error e => E' e s') s := by
  have e := I.env0
  refine codeAny_mono (F.run A X.stack s H args us vs Q E hr ⟨hA, e.mod, e.bs, e.bsz, e.funs, e.frf, e.hok, e.bare⟩ hb r h) fun r s' hq => ?_
  match r, hq with
  | .error e, hq => exact hx e s' hq
  | .ok (.ret u), hq => exact I.after hq
  | .ok .next, hq => exact hq.elim
  | .ok .brk, hq => exact hq.elim
  | .ok .cont, hq => exact hq.elim
theorem Fk.call {X : Cx} {pins : List (Addr × Obj)} {σ : St} {H : Hp} {s : Shared} {Q : VK} {E : XK} {A : Around} {E' : Value → Shared → Prop} {j : Nat} {f : Addr} {fd : FuncData} {ps : List Str} {sp : Sp} {us : List Value} {vs : List V}
    (F : Fk X.prog X.w X.K X.mg X.base j f fd ps sp) (hA : A.frames = some X.stack) (hr : RmG j A) (I : Inv X pins σ H s) (hb : Binds X.K fd ps []) (r : Vals vs us) (h : sp vs H Q E) (hx : ∀ e s', L2.CX X.prog X.w X.stack H s E e s' → E' e s') :
    wpAny (model X.prog X.w) A (PySem.call (.ref f) us) (EP X pins σ Q) E' s := by
  have hl : us.length = ps.length := by rw [← r.length]; exact F.len _ _ _ _ h
  refine wpAny_call (codeAny_mono (F.go hA hr I (args := ⟨us, []⟩) (us := us) ?_ r h hx) fun r s' hq => ?_)
  · have q := hb s us I.kIn (by rw [List.append_nil]; exact hl)
    rw [List.append_nil] at q
    exact q
  · match r, hq with
    | .error e, hq => exact hq
    | .ok (.ret u), hq => exact hq
/-- a def of the module -/
def Df (P : Program) (w : World) (K : PySem.W.Frag) (mg : Str → Option Value) (base : Heap) (x : Str) (j : Nat) (ps : List Str) (sp : Sp) : Prop :=
  ∃ f fd, Fk P w K mg base j f fd ps sp ∧ Binds K fd ps [] ∧ PySem.W.keepIn K (.ref f) = true ∧ mg x = some (.ref f)
/-- a method of the class at C -/
def Mt (P : Program) (w : World) (K : PySem.W.Frag) (mg : Str → Option Value) (base : Heap) (C : Addr) (x : Str) (j : Nat) (ps : List Str) (sp : Sp) : Prop :=
  ∃ f fd, Fk P w K mg base j f fd ps sp ∧ Binds K fd ps [] ∧ Meth K C x f
/-- a class with its own __init__ -/
def Cl (P : Program) (w : World) (K : PySem.W.Frag) (mg : Str → Option Value) (base : Heap) (C : Addr) (x : Str) (j : Nat) (ps : List Str) (sp : Sp) : Prop :=
  ∃ f fd, Fk P w K mg base j f fd ps sp ∧ Binds K fd ps [] ∧ Mk K C f ∧ mg x = some (.ref C)
/-- a property of the class at C -/
def Pr (P : Program) (w : World) (K : PySem.W.Frag) (mg : Str → Option Value) (base : Heap) (C : Addr) (x : Str) (j : Nat) (sp : Sp) : Prop :=
  ∃ p f fd, Fk P w K mg base j f fd ["self"] sp ∧ Binds K fd ["self"] [] ∧ PropOf K C x p f

variable {k : Nat} {VL AL : List (Option Str)} {GL : List Str} {E : WX} {X : Cx} {σ : St} {H : Hp} {Q : VK} {pos p : Pos} {e : Expr} {es : List Expr} {x : Str} {j : Nat} {ps : List Str} {sp : Sp}
theorem CxI.rg (cx : CxI P w K mg base k VL AL GL E X) : RmG k X.A := ⟨cx.room, cx.gd⟩
theorem CxI.rg' (cx : CxI P w K mg base k VL AL GL E X) {j : Nat} (h : j ≤ k) : RmG j X.A := ⟨cx.room.mono h, cx.gd⟩
/-- an exception of a callee goes on -/
theorem CxI.thru (cx : CxI P w K mg base k VL AL GL E X) {pins : List (Addr × Obj)} {s : Shared} (I : Inv X pins σ H s) : ∀ e s', L2.CX X.prog X.w X.stack H s (fun c d H' => E c d σ H') e s' → X.xe e s' := fun e s' c => passAt cx.tk σ pins H s e s' I c
theorem frm_ {pins : List (Addr × Obj)} {s : Shared} (I : Inv X pins σ H s) : X.A.frames = some X.stack := I.env0.frames
theorem w_call (cx : CxI P w K mg base k VL AL GL E X) (hg : In x GL) (d : Df P w K mg base x j ps sp) (hj : Nat.ble j k = true) (h : Wa X (e :: es) σ H fun vs H1 => sp vs H1 Q (fun c d H' => E c d σ H')) (he : starEach (e :: es) X.env = (false, eval e X.env) :: starEach es X.env := by kernel_rfl)
    (hpl : (backTo pos (starEach es X.env)).any (·.1) = false := by kernel_rfl) : We X (.Call (.Name x p) (e :: es) [] pos) σ H Q := by
  obtain ⟨f, fd, F, b, kp, hm⟩ := d
  have g := cx.gl hg
  have r := cx.rg' (Nat.le_of_ble_eq_true hj)
  have th := @CxI.thru P w K mg base k VL AL GL E X
  have cx' := cx
  obtain ⟨e1, e2, e3, e4, e5, _⟩ := cx
  subst e1; subst e2; subst e3; subst e4; subst e5
  intro pins s I
  refine wpAny_Call_Name_kw (ld_glob I g.1 hm ?_ g.2)
  exact PySem.W.callWith_K (h₀ := X.base) I.ok.mod.kin kp (thn (h pos pins s I) fun us s1 ⟨vs, H1, I1, rr, q⟩ => ⟨I1.kIn, F.call (frm_ I1) r I1 b rr q (cx'.thru I1)⟩) he hpl
/-- what is wanted behind __init__ of the new thing y -/
def MkQ (Q : VK) (y : Addr) : VK := fun v H2 => v = .non ∧ Q (.ref y) H2
theorem w_make (cx : CxI P w K mg base k VL AL GL E X) {C : Addr} (hg : In x GL) (d : Cl P w K mg base C x j ps sp) (hj : Nat.ble (j + 1) k = true) (h : Wa X (e :: es) σ H fun vs H1 => ∀ y dx, H1 y = none → H1 dx = none → dx ≠ y → sp (.ref y :: vs) (upd (upd H1 dx (.own y)) y (.ins C dx [])) (MkQ Q y) (fun c d H' => E c d σ H'))
    (he : starEach (e :: es) X.env = (false, eval e X.env) :: starEach es X.env := by kernel_rfl) (hpl : (backTo pos (starEach es X.env)).any (·.1) = false := by kernel_rfl) : We X (.Call (.Name x p) (e :: es) [] pos) σ H Q := by
  obtain ⟨f, fd, F, b, mk, hm⟩ := d
  have g := cx.gl hg
  have r := cx.rg' (Nat.le_of_ble_eq_true hj)
  have cx' := cx
  obtain ⟨e1, e2, e3, e4, e5, _⟩ := cx
  subst e1; subst e2; subst e3; subst e4; subst e5
  intro pins s I
  refine wpAny_Call_Name_kw (ld_glob I g.1 hm ?_ g.2)
  refine PySem.W.callWith_K (h₀ := X.base) I.ok.mod.kin mk.kp (thn (h pos pins s I) fun us s1 ⟨vs, H1, I1, rr, q⟩ => ⟨I1.kIn, ?_⟩) he hpl
  have q1 := q (s1.heap.objs.size + 1) s1.heap.objs.size (I1.hok.fresh (Nat.le_succ _)) (I1.hok.fresh (Nat.le_refl _)) (Nat.ne_of_lt (Nat.lt_succ_self _))
  have I2 := Inv.made (C := C) I1
  have rel : Vals (V.ref (s1.heap.objs.size + 1) :: vs) (Value.ref (s1.heap.objs.size + 1) :: us) := .cons rfl rr
  refine wpAny_call (make_map (f := f) I1.kIn mk.makes mk.init (beq_iff_eq.mp mk.fn) (codeAny_mono (F.go (A := X.A.under (.builtin "type.__call__" ⟨.ref C :: us, []⟩)) (E' := X.xe) (us := Value.ref (s1.heap.objs.size + 1) :: us) ?_ (r.make C us []) I2 ?_ rel q1 (cx'.thru I2)) fun r s' hq => ?_))
  · have z := (I2.env0.make C us []).frames
    exact z
  · have z := b _ (Value.ref (s1.heap.objs.size + 1) :: us) I2.kIn (by rw [List.append_nil, ← rel.length]; exact F.len _ _ _ _ q1)
    rw [List.append_nil] at z
    exact z
  · match r, hq with
    | .error e, hq => exact hq
    | .ok (.ret u), hq =>
      obtain ⟨v, H', I3, rv, ev, q3⟩ := hq
      subst ev
      exact ⟨rv, ⟨V.ref (s1.heap.objs.size + 1), H', I3, rfl, q3⟩⟩
theorem w_meth (cx : CxI P w K mg base k VL AL GL E X) {C : Addr} (cl : Cls K C) {o : Expr} {m : Str} {apos : Pos} {pl : Sem Bool} (d : Mt P w K mg base C m j ps sp) (hj : Nat.ble j k = true)
    (h : We X o σ H fun x H1 => ∃ a dx fs, x = .ref a ∧ H1 a = some (.ins C dx fs) ∧ fs.lookup m = none ∧ Wa X (e :: es) σ H1 fun vs H2 => sp (x :: vs) H2 Q (fun c d H' => E c d σ H'))
    (hst : starEach (e :: es) X.env = (false, eval e X.env) :: starEach es X.env := by kernel_rfl) (hpl : (backTo pos (starEach es X.env)).any (·.1) = false := by kernel_rfl)
    (ht : eval (.Call (.Attribute o m apos) (e :: es) [] pos) X.env = (do
      let ov ← eval o X.env
      standAt apos.atName
      let (f, first) ← holding [ov] (getMethod ov m pl)
      callWith pos f first (backTo pos (starEach (e :: es) X.env)) (backToKw pos (keywordEach [] X.env))) := by with_unfolding_all rfl) : We X (.Call (.Attribute o m apos) (e :: es) [] pos) σ H Q := by
  obtain ⟨f, fd, F, b, hm⟩ := d
  have r := cx.rg' (Nat.le_of_ble_eq_true hj)
  have cx' := cx
  obtain ⟨e1, e2, e3, e4, e5, _⟩ := cx
  subst e1; subst e2; subst e3; subst e4; subst e5
  intro pins s I
  refine PySem.W.methodCall_KW (pl := pl) (thn (h pins s I) fun u s1 ⟨x, H1, I1, rx, a, dx, fs, ex, ea, l, q⟩ => ?_) ht
  subst ex
  cases (show u = Value.ref a from rx)
  refine getmeth_ok I1 ea cl hm l (PySem.W.callWith_K (first := [.ref a]) (h₀ := X.base) I.ok.mod.kin hm.kp (thn (q pos pins s1 I1) fun us s2 ⟨vs, H2, I2, rr, q2⟩ => ⟨I2.kIn, ?_⟩) hst hpl)
  exact F.call (us := .ref a :: us) (vs := .ref a :: vs) (frm_ I2) r I2 b (.cons rfl rr) q2 (cx'.thru I2)
theorem w_meth0 (cx : CxI P w K mg base k VL AL GL E X) {C : Addr} (cl : Cls K C) {o : Expr} {m : Str} {apos : Pos} {pl : Sem Bool} (d : Mt P w K mg base C m j ps sp) (hj : Nat.ble j k = true)
    (h : We X o σ H fun x H1 => ∃ a dx fs, x = .ref a ∧ H1 a = some (.ins C dx fs) ∧ fs.lookup m = none ∧ sp [x] H1 Q (fun c d H' => E c d σ H'))
    (ht : eval (.Call (.Attribute o m apos) [] [] pos) X.env = (do
      let ov ← eval o X.env
      standAt apos.atName
      let (f, first) ← holding [ov] (getMethod ov m pl)
      callWith pos f first (backTo pos (starEach [] X.env)) (backToKw pos (keywordEach [] X.env))) := by with_unfolding_all rfl) : We X (.Call (.Attribute o m apos) [] [] pos) σ H Q := by
  obtain ⟨f, fd, F, b, hm⟩ := d
  have r := cx.rg' (Nat.le_of_ble_eq_true hj)
  have cx' := cx
  obtain ⟨e1, e2, e3, e4, e5, _⟩ := cx
  subst e1; subst e2; subst e3; subst e4; subst e5
  intro pins s I
  refine PySem.W.methodCall_KW (pl := pl) (thn (h pins s I) fun u s1 ⟨x, H1, I1, rx, a, dx, fs, ex, ea, l, q⟩ => ?_) ht
  subst ex
  cases (show u = Value.ref a from rx)
  refine getmeth_ok I1 ea cl hm l (PySem.W.callWith_K0 (first := [.ref a]) I1.kIn hm.kp ?_)
  exact F.call (us := [.ref a]) (vs := [.ref a]) (frm_ I1) r I1 b (.cons rfl .nil) q (cx'.thru I1)
/-! ### attributes by values -/
def Wat (X : Cx) (x : V) (f : Str) (H : Hp) (Q : VK) : Prop := ∀ (pins : List (Addr × Obj)) (s : Shared) (σ : St) (v : Value), Inv X pins σ H s → RelV x v → wpAny (model X.prog X.w) X.A (getAttr v f true) (EP X pins σ Q) X.xe s
theorem w_attr {f : Str} (h : We X e σ H fun x H1 => Wat X x f H1 Q) (hb : attributeBase e f X.env (eval e X.env) = eval e X.env := by kernel_rfl) : We X (.Attribute e f pos) σ H Q :=
  fun pins s I => attr_of hb (thn (h pins s I) fun u s1 ⟨x, H1, I1, rx, q⟩ => q pins s1 σ u I1 rx)
theorem at_fld (cx : CxI P w K mg base k VL AL GL E X) {a C dx : Addr} {fs : List (Str × V)} {f : Str} {v : V} (cl : Cls K C) (n : NoAttr K C f) (ha : H a = some (.ins C dx fs)) (hl : fs.lookup f = some v) (h : Q v H) : Wat X (.ref a) f H Q := by
  intro pins s σ u I r
  obtain rfl : u = Value.ref a := r
  have e3 := cx.eK
  subst e3
  exact getattr_ok I ha cl n hl fun u' s2 I2 ru => ⟨v, H, I2, ru, h⟩
theorem at_con (cx : CxI P w K mg base k VL AL GL E X) {a C dx : Addr} {fs : List (Str × V)} {f : Str} {v : V} {u : Value} (cl : Cls K C) (c : Con K C f v u) (ha : H a = some (.ins C dx fs)) (hl : fs.lookup f = none) (h : Q v H) : Wat X (.ref a) f H Q := by
  intro pins s σ u I r
  obtain rfl : u = Value.ref a := r
  have e3 := cx.eK
  subst e3
  exact getcon_ok I ha cl c hl fun s2 I2 => ⟨v, H, I2, c.rel, h⟩
theorem at_cval (cx : CxI P w K mg base k VL AL GL E X) {C : Addr} {mc : Value} {f : Str} {v : V} {u : Value} (r : ClX.CRead K C mc) (c : ClX.CVal K C mc f v u) (h : Q v H) : Wat X (.ref C) f H Q := by
  intro pins s σ u I r
  obtain rfl : u = Value.ref C := r
  have e3 := cx.eK
  subst e3
  exact ClX.getcval_ok I (by assumption) c fun s2 I2 => ⟨v, H, I2, c.rel, h⟩
theorem at_prop (cx : CxI P w K mg base k VL AL GL E X) {a C dx : Addr} {fs : List (Str × V)} {f : Str} (cl : Cls K C) (d : Pr P w K mg base C f j sp) (hj : Nat.ble (j + 1) k = true) (ha : H a = some (.ins C dx fs)) (h : sp [.ref a] H Q E0) : Wat X (.ref a) f H Q := by
  intro pins s σ u I r
  cases (show u = Value.ref a from r)
  obtain ⟨p, g, fd, F, b, hm⟩ := d
  have rg := cx.rg' (Nat.le_of_ble_eq_true hj)
  obtain ⟨e1, e2, e3, e4, e5, _⟩ := cx
  subst e1; subst e2; subst e3; subst e4; subst e5
  obtain ⟨mA, O, _⟩ := ins_get I.hok ha
  obtain ⟨od, J, _⟩ := O.look
  obtain ⟨rest, hrec⟩ := hm.rec_
  have hc : (PySem.W.clsIn X.K C).isSome = true := by
    obtain ⟨cd, hc, _⟩ := PySem.W.any_some cl.hd
    rw [hc]
    rfl
  have I1 := I.tok (s.toks + 1)
  have pg := PySem.W.plainGet_of (cl.get f)
  refine PySem.W.get_bind I.kIn J pg.1 (PySem.W.findObj_data hc hm.at_ hm.get hm.tak) pg.2 (wpAny_call (PySem.W.prop_get (s := { s with toks := s.toks + 1 }) I.kIn hrec ?_))
  refine codeAny_mono (F.go (A := X.A.in1) (E' := fun _ _ => False) (us := [.ref a]) (args := ⟨[.ref a], []⟩) I1.env0.in1.frames rg.in1 I1 (b _ [.ref a] I1.kIn rfl) (vs := [.ref a]) (.cons (a := V.ref a) rfl .nil) h fun e s' c => ?_) fun r s' hq => ?_
  · obtain ⟨_, _, _, _, _, _, _, _, _, _, _, _, z⟩ := c
    exact z
  · match r, hq with
    | .ok (.ret u), ⟨v, H', I3, rv, q3⟩ => exact wpAny_of_eq (PySem.W.handedOut_of (handed_of rv)) ⟨v, H', I3, rv, q3⟩
/-! ### stores -/
theorem putF_len (f : Str) (y : V) : ∀ fs : List (Str × V), (putF f y fs).length ≤ fs.length + 1
  | [] => by simp [putF]
  | (g, z) :: r => by
    have ih := putF_len f y r
    unfold putF
    split <;> simp <;> omega
inductive FL : List (Str × V) → Nat → Prop
  | z : FL [] 0
  | s {f y fs n} : FL fs n → FL (putF f y fs) (n + 1)
theorem FL.le {fs : List (Str × V)} {n : Nat} (h : FL fs n) : fs.length ≤ n := by
  induction h with
  | z => exact Nat.le_refl _
  | s _ ih => exact Nat.le_trans (putF_len _ _ _) (Nat.succ_le_succ ih)
def FldSt (C : Addr) (f : Str) (x y : V) (H : Hp) (R : Hp → Prop) : Prop := ∃ a dx fs, x = .ref a ∧ H a = some (.ins C dx fs) ∧ fs.length < 1000 ∧ R (upd H a (.ins C dx (putF f y fs)))
theorem s_fld (cx : CxI P w K mg base k VL AL GL E X) {o value : Expr} {f : Str} {pos' : Pos} {nx : St → Hp → Prop} {rt : VK} {bk ct : St → Hp → Prop} {rest : List Stmt} {C : Addr} (cl : Cls K C) (n : NoAttr K C f)
    (h : We X value σ H fun y H1 => We X o σ H1 fun x H2 => FldSt C f x y H2 fun H3 => Wss X rest ⟨nx, rt, bk, ct⟩ σ H3)
    (hs : swapsWith value (some (.Attribute o f pos')) pos.line X.env = pure false := by kernel_rfl) : Wss X (.Assign [.Attribute o f pos'] value pos :: rest) ⟨nx, rt, bk, ct⟩ σ H := by
  have e3 := cx.eK
  subst e3
  refine s_cons (ofPS (ps_fld peU peU hs) ?_)
  refine fun pins s I => thn (h pins s I) fun u s1 ⟨y, H1, I1, r1, q⟩ => ⟨y, H1, I1, r1, ?_⟩
  refine fun pins s I => thn (q pins s I) fun u s1 ⟨x, H2, I2, r2, a, dx, fs, e, ha, hl, q2⟩ => ⟨x, H2, I2, r2, a, C, dx, fs, e, ha, cl, n, hl, q2⟩
theorem k_sfld {C dx a : Addr} {f : Str} {y : V} {fs : List (Str × V)} {R : Hp → Prop} {M M' : List (Addr × (HO → Prop))} {L : List (Addr × Obj)} {n : Nat} {S : Hp → Prop} (kn : Kn R M L H) (hp : Put a (Is (.ins C dx fs)) (Is (.ins C dx (putF f y fs))) M M') (hl : FL fs n) (hn : Nat.ble n 999 = true)
    (h : ∀ H', Kn R M' L H' → S H') : FldSt C f (.ref a) y H S :=
  ⟨a, dx, fs, rfl, kn.is hp.has, Nat.lt_of_le_of_lt hl.le (Nat.lt_succ_of_le (Nat.le_of_ble_eq_true hn)), h _ (kn.write hp rfl)⟩
/-! ### places in written sequences -/
theorem at0 {α : Type} {a : α} {l : List α} : atI (a :: l) 0 = some a := by
  unfold atI ixN
  simp
theorem at1 {α : Type} {a b : α} {l : List α} : atI (a :: b :: l) 1 = some b := by
  unfold atI ixN
  have z : (1 : Int) < ((a :: b :: l).length : Int) := by simp only [List.length_cons]; omega
  rw [if_pos (by decide), if_pos z]
  rfl
theorem at2 {α : Type} {a b c : α} {l : List α} : atI (a :: b :: c :: l) 2 = some c := by
  unfold atI ixN
  have z : (2 : Int) < ((a :: b :: c :: l).length : Int) := by simp only [List.length_cons]; omega
  rw [if_pos (by decide), if_pos z]
  rfl
theorem ix0 {n : Nat} (h : 0 < n) : ixN n 0 = some 0 := by
  unfold ixN
  rw [if_pos (by decide), if_pos (by omega)]
  rfl
theorem ix1 {n : Nat} (h : 1 < n) : ixN n 1 = some 1 := by
  unfold ixN
  rw [if_pos (by decide), if_pos (by omega)]
  rfl
theorem ix2 {n : Nat} (h : 2 < n) : ixN n 2 = some 2 := by
  unfold ixN
  rw [if_pos (by decide), if_pos (by omega)]
  rfl
/-! ### ints -/
theorem o_add {i j : Int} (h : Q (.int (i + j)) H) : Wop X (binaryOp .Add) (.int i) (.int j) H Q := ofOp op_add ⟨i, j, rfl, rfl, h⟩
theorem o_sub {i j : Int} (h : Q (.int (i - j)) H) : Wop X (binaryOp .Sub) (.int i) (.int j) H Q := ofOp op_sub ⟨i, j, rfl, rfl, h⟩
theorem o_mulL {i j : Int} (hc : -(18446744073709551616) < i ∧ i < 18446744073709551616) (h : Q (.int (i * j)) H) : Wop X (binaryOp .Mult) (.int i) (.int j) H Q := ofOp op_mul ⟨i, j, rfl, rfl, .inl hc, h⟩
theorem o_mulR {i j : Int} (hc : -(18446744073709551616) < j ∧ j < 18446744073709551616) (h : Q (.int (i * j)) H) : Wop X (binaryOp .Mult) (.int i) (.int j) H Q := ofOp op_mul ⟨i, j, rfl, rfl, .inr hc, h⟩
theorem o_mulX {i j : Int} {a b : Nat} (ha : i.natAbs < 2 ^ a) (hb : j.natAbs < 2 ^ b) (hab : a + b ≤ 134217728) (h : Q (.int (i * j)) H) : Wop X (binaryOp .Mult) (.int i) (.int j) H Q := ofOp op_mulX ⟨i, j, rfl, rfl, mulx_ok ha hb hab, h⟩
theorem o_fdiv {i j : Int} (hc : 0 < j ∧ j < 1073741824) (h : Q (.int (i / j)) H) : Wop X (binaryOp .FloorDiv) (.int i) (.int j) H Q := ofOp op_fdiv ⟨i, j, rfl, rfl, hc, h⟩
theorem o_fdivW {i j : Int} (b : Nat) (hp : 0 < j) (hb : j < 2 ^ b) (h0 : 0 < b) (h9 : b ≤ 9000) (h : Q (.int (i / j)) H) : Wop X (binaryOp .FloorDiv) (.int i) (.int j) H Q := by
  refine ofOp op_fdivW ⟨i, j, rfl, rfl, wide_div hp (b := b) ?_ h0 h9, h⟩
  have e : (j.natAbs : Int) = j := by omega
  have z : ((j.natAbs : Nat) : Int) < ((2 ^ b : Nat) : Int) := by rw [e]; exact_mod_cast hb
  exact Int.ofNat_lt.mp z
theorem o_fdivB {i j : Int} (hc : 0 < j ∧ j < 1361129467683753853853498429727072845824) (h : Q (.int (i / j)) H) : Wop X (binaryOp .FloorDiv) (.int i) (.int j) H Q := o_fdivW 130 hc.1 hc.2 (by decide) (by decide) h
theorem o_mod {i j : Int} (hc : 0 < j) (h : Q (.int (i % j)) H) : Wop X (binaryOp .Mod) (.int i) (.int j) H Q := ofOp op_mod ⟨i, j, rfl, rfl, hc, h⟩
theorem o_pow {i j z : Int} (hz : i ^ j.toNat = z) (h0 : 0 ≤ j) (hc : (Builtin.Int.intBits i : Int) * j ≤ 2 ^ 27) (h : Q (.int z) H) : Wop X (binaryOp .Pow) (.int i) (.int j) H Q := by
  intro pins s σ v u I r1 r2
  obtain ⟨t, rfl⟩ := r1
  obtain ⟨t', rfl⟩ := r2
  subst hz
  exact pow_int h0 hc ⟨.int _, H, I.tok _, ⟨_, rfl⟩, h⟩
theorem o_neg {i : Int} (h : Q (.int (-i)) H) : Wun X (unaryOp .USub) (.int i) H Q := ofUn un_neg ⟨i, rfl, h⟩
theorem o_lt {i j : Int} (h : Q (.bl (decide (i < j))) H) : Wop X (compareOp .Lt) (.int i) (.int j) H Q := ofOp op_lt ⟨i, j, rfl, rfl, h⟩
theorem o_le {i j : Int} (h : Q (.bl (decide (i ≤ j))) H) : Wop X (compareOp .LtE) (.int i) (.int j) H Q := ofOp op_le ⟨i, j, rfl, rfl, h⟩
theorem o_gt {i j : Int} (h : Q (.bl (decide (j < i))) H) : Wop X (compareOp .Gt) (.int i) (.int j) H Q := ofOp op_gt ⟨i, j, rfl, rfl, h⟩
theorem o_ge {i j : Int} (h : Q (.bl (decide (j ≤ i))) H) : Wop X (compareOp .GtE) (.int i) (.int j) H Q := ofOp op_ge ⟨i, j, rfl, rfl, h⟩
theorem o_eqI {i j : Int} (h : Q (.bl (decide (i = j))) H) : Wop X (compareOp .Eq) (.int i) (.int j) H Q := ofOp op_eq ⟨rfl, by rw [show decide (V.int i = V.int j) = decide (i = j) from by simp]; exact h⟩
theorem o_neI {i j : Int} (h : Q (.bl (!decide (i = j))) H) : Wop X (compareOp .NotEq) (.int i) (.int j) H Q := ofOp op_ne ⟨rfl, by rw [show decide (V.int i = V.int j) = decide (i = j) from by simp]; exact h⟩
theorem o_eqS {i j : Str} (h : Q (.bl (decide (i = j))) H) : Wop X (compareOp .Eq) (.str i) (.str j) H Q := ofOp op_eq ⟨rfl, by rw [show decide (V.str i = V.str j) = decide (i = j) from by simp]; exact h⟩
theorem o_neS {i j : Str} (h : Q (.bl (!decide (i = j))) H) : Wop X (compareOp .NotEq) (.str i) (.str j) H Q := ofOp op_ne ⟨rfl, by rw [show decide (V.str i = V.str j) = decide (i = j) from by simp]; exact h⟩
theorem o_isN {v : V} (h : Q (.bl (decide (v = .non))) H) : Wop X (compareOp .Is) v .non H Q := ofOp op_isN ⟨rfl, h⟩
theorem o_notN {v : V} (h : Q (.bl (!decide (v = .non))) H) : Wop X (compareOp .IsNot) v .non H Q := ofOp op_notN ⟨rfl, h⟩
theorem o_addS {i j : Str} (hl : i.length + j.length ≤ sizeLine) (h : Q (.str (i ++ j)) H) : Wop X (binaryOp .Add) (.str i) (.str j) H Q := ofOp op_add_str ⟨i, j, rfl, rfl, hl, h⟩
theorem o_addSn {i j : Str} {m n : Nat} (h1 : i.length ≤ m) (h2 : j.length ≤ n) (hn : Nat.ble (m + n) 16777216 = true) (h : Q (.str (i ++ j)) H) : Wop X (binaryOp .Add) (.str i) (.str j) H Q := o_addS (Nat.le_trans (Nat.add_le_add h1 h2) (Nat.le_of_ble_eq_true hn)) h
/-! ### builtins -/
theorem w_bltn (cx : CxI P w K mg base k VL AL GL E X) {id : String} (hg : In x GL) (hv : bootBuiltins x = some (.builtin id)) (h : Wa X (e :: es) σ H fun vs H1 => Wcall X (.builtin id) vs H1 Q) (hx : x ∈ blts := by decide +kernel)
    (hn : x ≠ "__name__" := by decide +kernel) (he : starEach (e :: es) X.env = (false, eval e X.env) :: starEach es X.env := by kernel_rfl) (hpl : (backTo pos (starEach es X.env)).any (·.1) = false := by kernel_rfl) :
    We X (.Call (.Name x p) (e :: es) [] pos) σ H Q := ofPE (pe_callB callU (cx.gl hg).1 (cx.bltn hx) hv paU hn (cx.gl hg).2 he hpl) h
theorem w_bltT (cx : CxI P w K mg base k VL AL GL E X) {id : String} (hg : In x GL) (hv : bootBuiltins x = some (.type id)) (h : Wa X (e :: es) σ H fun vs H1 => Wcall X (.type id) vs H1 Q) (hx : x ∈ blts := by decide +kernel)
    (hn : x ≠ "__name__" := by decide +kernel) (he : starEach (e :: es) X.env = (false, eval e X.env) :: starEach es X.env := by kernel_rfl) (hpl : (backTo pos (starEach es X.env)).any (·.1) = false := by kernel_rfl) :
    We X (.Call (.Name x p) (e :: es) [] pos) σ H Q := ofPE (pe_callTy callU (cx.gl hg).1 (cx.bltn hx) hv paU hn (cx.gl hg).2 he hpl) h
/-! builtins by name -/
theorem w_len (cx : CxI P w K mg base k VL AL GL E X) (hg : In ("len" : Str) GL) (h : Wa X (e :: es) σ H fun vs H1 => Wcall X (.builtin "len") vs H1 Q) (he : starEach (e :: es) X.env = (false, eval e X.env) :: starEach es X.env := by kernel_rfl) (hpl : (backTo pos (starEach es X.env)).any (·.1) = false := by kernel_rfl) : We X (.Call (.Name "len" p) (e :: es) [] pos) σ H Q := w_bltn cx hg (by rfl) h (by decide +kernel) (by decide +kernel) he hpl
theorem w_max (cx : CxI P w K mg base k VL AL GL E X) (hg : In ("max" : Str) GL) (h : Wa X (e :: es) σ H fun vs H1 => Wcall X (.builtin "max") vs H1 Q) (he : starEach (e :: es) X.env = (false, eval e X.env) :: starEach es X.env := by kernel_rfl) (hpl : (backTo pos (starEach es X.env)).any (·.1) = false := by kernel_rfl) : We X (.Call (.Name "max" p) (e :: es) [] pos) σ H Q := w_bltn cx hg (by rfl) h (by decide +kernel) (by decide +kernel) he hpl
theorem w_min (cx : CxI P w K mg base k VL AL GL E X) (hg : In ("min" : Str) GL) (h : Wa X (e :: es) σ H fun vs H1 => Wcall X (.builtin "min") vs H1 Q) (he : starEach (e :: es) X.env = (false, eval e X.env) :: starEach es X.env := by kernel_rfl) (hpl : (backTo pos (starEach es X.env)).any (·.1) = false := by kernel_rfl) : We X (.Call (.Name "min" p) (e :: es) [] pos) σ H Q := w_bltn cx hg (by rfl) h (by decide +kernel) (by decide +kernel) he hpl
theorem w_abs (cx : CxI P w K mg base k VL AL GL E X) (hg : In ("abs" : Str) GL) (h : Wa X (e :: es) σ H fun vs H1 => Wcall X (.builtin "abs") vs H1 Q) (he : starEach (e :: es) X.env = (false, eval e X.env) :: starEach es X.env := by kernel_rfl) (hpl : (backTo pos (starEach es X.env)).any (·.1) = false := by kernel_rfl) : We X (.Call (.Name "abs" p) (e :: es) [] pos) σ H Q := w_bltn cx hg (by rfl) h (by decide +kernel) (by decide +kernel) he hpl
theorem w_repr (cx : CxI P w K mg base k VL AL GL E X) (hg : In ("repr" : Str) GL) (h : Wa X (e :: es) σ H fun vs H1 => Wcall X (.builtin "repr") vs H1 Q) (he : starEach (e :: es) X.env = (false, eval e X.env) :: starEach es X.env := by kernel_rfl) (hpl : (backTo pos (starEach es X.env)).any (·.1) = false := by kernel_rfl) : We X (.Call (.Name "repr" p) (e :: es) [] pos) σ H Q := w_bltn cx hg (by rfl) h (by decide +kernel) (by decide +kernel) he hpl
theorem w_isinstance (cx : CxI P w K mg base k VL AL GL E X) (hg : In ("isinstance" : Str) GL) (h : Wa X (e :: es) σ H fun vs H1 => Wcall X (.builtin "isinstance") vs H1 Q) (he : starEach (e :: es) X.env = (false, eval e X.env) :: starEach es X.env := by kernel_rfl) (hpl : (backTo pos (starEach es X.env)).any (·.1) = false := by kernel_rfl) : We X (.Call (.Name "isinstance" p) (e :: es) [] pos) σ H Q := w_bltn cx hg (by rfl) h (by decide +kernel) (by decide +kernel) he hpl
theorem w_sorted (cx : CxI P w K mg base k VL AL GL E X) (hg : In ("sorted" : Str) GL) (h : Wa X (e :: es) σ H fun vs H1 => Wcall X (.builtin "sorted") vs H1 Q) (he : starEach (e :: es) X.env = (false, eval e X.env) :: starEach es X.env := by kernel_rfl) (hpl : (backTo pos (starEach es X.env)).any (·.1) = false := by kernel_rfl) : We X (.Call (.Name "sorted" p) (e :: es) [] pos) σ H Q := w_bltn cx hg (by rfl) h (by decide +kernel) (by decide +kernel) he hpl
theorem w_all (cx : CxI P w K mg base k VL AL GL E X) (hg : In ("all" : Str) GL) (h : Wa X (e :: es) σ H fun vs H1 => Wcall X (.builtin "all") vs H1 Q) (he : starEach (e :: es) X.env = (false, eval e X.env) :: starEach es X.env := by kernel_rfl) (hpl : (backTo pos (starEach es X.env)).any (·.1) = false := by kernel_rfl) : We X (.Call (.Name "all" p) (e :: es) [] pos) σ H Q := w_bltn cx hg (by rfl) h (by decide +kernel) (by decide +kernel) he hpl
theorem w_any (cx : CxI P w K mg base k VL AL GL E X) (hg : In ("any" : Str) GL) (h : Wa X (e :: es) σ H fun vs H1 => Wcall X (.builtin "any") vs H1 Q) (he : starEach (e :: es) X.env = (false, eval e X.env) :: starEach es X.env := by kernel_rfl) (hpl : (backTo pos (starEach es X.env)).any (·.1) = false := by kernel_rfl) : We X (.Call (.Name "any" p) (e :: es) [] pos) σ H Q := w_bltn cx hg (by rfl) h (by decide +kernel) (by decide +kernel) he hpl
theorem w_sum (cx : CxI P w K mg base k VL AL GL E X) (hg : In ("sum" : Str) GL) (h : Wa X (e :: es) σ H fun vs H1 => Wcall X (.builtin "sum") vs H1 Q) (he : starEach (e :: es) X.env = (false, eval e X.env) :: starEach es X.env := by kernel_rfl) (hpl : (backTo pos (starEach es X.env)).any (·.1) = false := by kernel_rfl) : We X (.Call (.Name "sum" p) (e :: es) [] pos) σ H Q := w_bltn cx hg (by rfl) h (by decide +kernel) (by decide +kernel) he hpl
theorem w_intT (cx : CxI P w K mg base k VL AL GL E X) (hg : In ("int" : Str) GL) (h : Wa X (e :: es) σ H fun vs H1 => Wcall X (.type "int") vs H1 Q) (he : starEach (e :: es) X.env = (false, eval e X.env) :: starEach es X.env := by kernel_rfl) (hpl : (backTo pos (starEach es X.env)).any (·.1) = false := by kernel_rfl) : We X (.Call (.Name "int" p) (e :: es) [] pos) σ H Q := w_bltT cx hg (by rfl) h (by decide +kernel) (by decide +kernel) he hpl
theorem w_strT (cx : CxI P w K mg base k VL AL GL E X) (hg : In ("str" : Str) GL) (h : Wa X (e :: es) σ H fun vs H1 => Wcall X (.type "str") vs H1 Q) (he : starEach (e :: es) X.env = (false, eval e X.env) :: starEach es X.env := by kernel_rfl) (hpl : (backTo pos (starEach es X.env)).any (·.1) = false := by kernel_rfl) : We X (.Call (.Name "str" p) (e :: es) [] pos) σ H Q := w_bltT cx hg (by rfl) h (by decide +kernel) (by decide +kernel) he hpl
theorem w_tupleT (cx : CxI P w K mg base k VL AL GL E X) (hg : In ("tuple" : Str) GL) (h : Wa X (e :: es) σ H fun vs H1 => Wcall X (.type "tuple") vs H1 Q) (he : starEach (e :: es) X.env = (false, eval e X.env) :: starEach es X.env := by kernel_rfl) (hpl : (backTo pos (starEach es X.env)).any (·.1) = false := by kernel_rfl) : We X (.Call (.Name "tuple" p) (e :: es) [] pos) σ H Q := w_bltT cx hg (by rfl) h (by decide +kernel) (by decide +kernel) he hpl
theorem w_listT (cx : CxI P w K mg base k VL AL GL E X) (hg : In ("list" : Str) GL) (h : Wa X (e :: es) σ H fun vs H1 => Wcall X (.type "list") vs H1 Q) (he : starEach (e :: es) X.env = (false, eval e X.env) :: starEach es X.env := by kernel_rfl) (hpl : (backTo pos (starEach es X.env)).any (·.1) = false := by kernel_rfl) : We X (.Call (.Name "list" p) (e :: es) [] pos) σ H Q := w_bltT cx hg (by rfl) h (by decide +kernel) (by decide +kernel) he hpl
theorem w_dictT (cx : CxI P w K mg base k VL AL GL E X) (hg : In ("dict" : Str) GL) (h : Wa X (e :: es) σ H fun vs H1 => Wcall X (.type "dict") vs H1 Q) (he : starEach (e :: es) X.env = (false, eval e X.env) :: starEach es X.env := by kernel_rfl) (hpl : (backTo pos (starEach es X.env)).any (·.1) = false := by kernel_rfl) : We X (.Call (.Name "dict" p) (e :: es) [] pos) σ H Q := w_bltT cx hg (by rfl) h (by decide +kernel) (by decide +kernel) he hpl
theorem w_boolT (cx : CxI P w K mg base k VL AL GL E X) (hg : In ("bool" : Str) GL) (h : Wa X (e :: es) σ H fun vs H1 => Wcall X (.type "bool") vs H1 Q) (he : starEach (e :: es) X.env = (false, eval e X.env) :: starEach es X.env := by kernel_rfl) (hpl : (backTo pos (starEach es X.env)).any (·.1) = false := by kernel_rfl) : We X (.Call (.Name "bool" p) (e :: es) [] pos) σ H Q := w_bltT cx hg (by rfl) h (by decide +kernel) (by decide +kernel) he hpl
theorem c_max {i j : Int} (cx : CxI P w K mg base k VL AL GL E X) (h : Q (.int (if j > i then j else i)) H) : Wcall X (.builtin "max") [.int i, .int j] H Q := ofCall (call_max2 cx.calm) ⟨i, j, rfl, h⟩
theorem c_min {i j : Int} (cx : CxI P w K mg base k VL AL GL E X) (h : Q (.int (if j < i then j else i)) H) : Wcall X (.builtin "min") [.int i, .int j] H Q := ofCall (call_min2 cx.calm) ⟨i, j, rfl, h⟩
theorem c_abs {i : Int} (h : Q (.int (if i < 0 then -i else i)) H) : Wcall X (.builtin "abs") [.int i] H Q := ofCall call_abs ⟨i, rfl, h⟩
theorem c_intI {i : Int} (h : Q (.int i) H) : Wcall X (.type "int") [.int i] H Q := ofCall call_int1 (.inl ⟨i, rfl, h⟩)
theorem c_intB {b : Bool} (h : Q (.int (if b then 1 else 0)) H) : Wcall X (.type "int") [.bl b] H Q := ofCall call_int1 (.inr ⟨b, rfl, h⟩)
theorem c_strI {i : Int} (hl : i.natAbs.log2 < 1920) (h : Q (.str (toString i)) H) : Wcall X (.type "str") [.int i] H Q := ofCall call_str_int ⟨i, rfl, hl, h⟩
theorem c_strS {i : Str} (h : Q (.str i) H) : Wcall X (.type "str") [.str i] H Q := ofCall SkE.call_str_str ⟨i, rfl, h⟩
theorem c_reprI {i : Int} (hl : i.natAbs.log2 < 1920) (h : Q (.str (toString i)) H) : Wcall X (.builtin "repr") [.int i] H Q := ofCall SkE.call_repr_int ⟨i, rfl, hl, h⟩
theorem c_lenS {z : Str} (hl : z.length ≤ sizeLine) (h : Q (.int z.length) H) : Wcall X (.builtin "len") [.str z] H Q := ofCall call_len_str ⟨z, rfl, hl, h⟩

/-! ### what stands in the heap, by Kn -/
variable {R : Hp → Prop} {M M' : List (Addr × (HO → Prop))} {L : List (Addr × Obj)} {a : Addr} {xs : List V} {v : V} {i : Int}
theorem c_lenT (kn : Kn R M L H) (en : Ent R (Ex a (.tup xs))) (h : Q (.int xs.length) H) : Wcall X (.builtin "len") [.ref a] H Q := ofCall call_len_seq ⟨a, xs, rfl, .inr (.inl (.inl (kn.get en))), h⟩
theorem c_lenL (kn : Kn R M L H) (en : Has a (Is (.lst xs)) M) (h : Q (.int xs.length) H) : Wcall X (.builtin "len") [.ref a] H Q := ofCall call_len_seq ⟨a, xs, rfl, .inl (.inl (.inl (kn.is en))), h⟩
theorem c_lenX (kn : Kn R M L H) (en : Ent R (Ex a (.lst xs))) (h : Q (.int xs.length) H) : Wcall X (.builtin "len") [.ref a] H Q := ofCall call_len_seq ⟨a, xs, rfl, .inl (.inl (.inl (kn.get en))), h⟩
theorem c_lenQ (cx : CxI P w K mg base k VL AL GL E X) (kn : Kn R M L H) (en : Ent R fun J => SqL K J a xs) (h : Q (.int xs.length) H) : Wcall X (.builtin "len") [.ref a] H Q := by
  have e3 := cx.eK
  subst e3
  exact ofCall call_len_seq ⟨a, xs, rfl, .inl (kn.get en), h⟩
theorem x_tup (kn : Kn R M L H) (en : Ent R (Ex a (.tup xs))) (hi : atI xs i = some v) (h : Q v H) : Wix X (.ref a) (.int i) H Q := ofIx ix_seq (.inr (.inl ⟨a, xs, i, v, rfl, rfl, .inl (.inl (kn.get en)), hi, h⟩))
theorem x_lst (kn : Kn R M L H) (en : Has a (Is (.lst xs)) M) (hi : atI xs i = some v) (h : Q v H) : Wix X (.ref a) (.int i) H Q := ofIx ix_seq (.inl ⟨a, xs, i, v, rfl, rfl, .inl (.inl (kn.is en)), hi, h⟩)
theorem x_lstX (kn : Kn R M L H) (en : Ent R (Ex a (.lst xs))) (hi : atI xs i = some v) (h : Q v H) : Wix X (.ref a) (.int i) H Q := ofIx ix_seq (.inl ⟨a, xs, i, v, rfl, rfl, .inl (.inl (kn.get en)), hi, h⟩)
theorem x_lstQ (cx : CxI P w K mg base k VL AL GL E X) (kn : Kn R M L H) (en : Ent R fun J => SqL K J a xs) (hi : atI xs i = some v) (h : Q v H) : Wix X (.ref a) (.int i) H Q := by
  have e3 := cx.eK
  subst e3
  exact ofIx ix_seq (.inl ⟨a, xs, i, v, rfl, rfl, kn.get en, hi, h⟩)
theorem x_str {z : Str} {c : Nat} (hl : z.length ≤ sizeLine) (hi : atI z.cps.toList i = some c) (h : Q (.str ⟨#[c]⟩) H) : Wix X (.str z) (.int i) H Q := ofIx ix_seq (.inr (.inr ⟨z, i, c, rfl, rfl, hl, hi, h⟩))
theorem p_lst {n : Nat} (kn : Kn R M L H) (hp : Put a (Is (.lst xs)) (Is (.lst (xs.set n v))) M M') (hi : ixN xs.length i = some n) {Q : Hp → Prop} (h : ∀ H', Kn R M' L H' → Q H') : Wset X (.ref a) (.int i) v H Q :=
  ofSet set_list ⟨a, xs, i, n, rfl, rfl, kn.is hp.has, hi, h _ (kn.write hp rfl)⟩
theorem p_l0 {x : V} {l : List V} (kn : Kn R M L H) (hp : Put a (Is (.lst (x :: l))) (Is (.lst (v :: l))) M M') {Q : Hp → Prop} (h : ∀ H', Kn R M' L H' → Q H') : Wset X (.ref a) (.int 0) v H Q :=
  ofSet set_list ⟨a, _, 0, 0, rfl, rfl, kn.is hp.has, ix0 (by simp), h _ (kn.write hp rfl)⟩
theorem p_l1 {x y : V} {l : List V} (kn : Kn R M L H) (hp : Put a (Is (.lst (x :: y :: l))) (Is (.lst (x :: v :: l))) M M') {Q : Hp → Prop} (h : ∀ H', Kn R M' L H' → Q H') : Wset X (.ref a) (.int 1) v H Q :=
  ofSet set_list ⟨a, _, 1, 1, rfl, rfl, kn.is hp.has, ix1 (by simp), h _ (kn.write hp rfl)⟩
theorem p_l2 {x y z : V} {l : List V} (kn : Kn R M L H) (hp : Put a (Is (.lst (x :: y :: z :: l))) (Is (.lst (x :: y :: v :: l))) M M') {Q : Hp → Prop} (h : ∀ H', Kn R M' L H' → Q H') : Wset X (.ref a) (.int 2) v H Q :=
  ofSet set_list ⟨a, _, 2, 2, rfl, rfl, kn.is hp.has, ix2 (by simp), h _ (kn.write hp rfl)⟩
/-- new tuples, lists -/
theorem w_tupK {x1} (h : Wa X es σ H fun xs H1 => ∃ R M L, Kn R M L H1 ∧ xs.length ≤ 10000 ∧ ∀ p H2, Kn (Cj (Ex p (.tup xs)) R) M L H2 → Q (.ref p) H2) : We X (.Tuple es x1 pos) σ H Q := by
  refine w_tup fun pos pins s I => thn (h pos pins s I) fun us s1 ⟨xs, H1, I1, r, R, M, L, kn, hl, q⟩ => ⟨xs, H1, I1, r, Nat.le_trans hl (by decide), fun p hp => ?_⟩
  exact q p _ (kn.newX hp (fun n => by rcases n with ⟨_, e⟩ | ⟨_, e⟩ <;> cases e) fun _ _ e => by cases e)
theorem w_lstK (h : Wa X es σ H fun xs H1 => ∃ R M L, Kn R M L H1 ∧ xs.length ≤ 10000 ∧ ∀ p H2, Kn R ((p, Is (.lst xs)) :: M) L H2 → Q (.ref p) H2) : We X (.List es pos) σ H Q := by
  refine w_lst fun pos pins s I => thn (h pos pins s I) fun us s1 ⟨xs, H1, I1, r, R, M, L, kn, hl, q⟩ => ⟨xs, H1, I1, r, Nat.le_trans hl (by decide), fun p hp => ?_⟩
  exact q p _ (kn.new hp rfl)
end

/-! ### tests that are known -/
section
variable {A B : Prop} {p : Prop} [Decidable p]
theorem i_t (h : p) (a : A) : if decide p = true then A else B := by rw [decide_eq_true h]; exact a
theorem i_f (h : ¬ p) (b : B) : if decide p = true then A else B := by rw [decide_eq_false h]; exact b
theorem i_2 (a : p → A) (b : ¬ p → B) : if decide p = true then A else B := by
  by_cases h : p
  · exact i_t h (a h)
  · exact i_f h (b h)
theorem i_not {c : Bool} (h : if c = true then B else A) : if (!c) = true then A else B := by cases c <;> exact h
theorem i_b {c : Bool} (a : c = true → A) (b : c = false → B) : if c = true then A else B := by
  cases c
  · exact b rfl
  · exact a rfl
end
theorem k_set {x : Str} {v : V} {N : List (Option Str)} {σ σ' : St} {A : St → Prop} (h : SetAt x v N σ σ') (a : A σ') : ∃ σ', SetAt x v N σ σ' ∧ A σ' := ⟨_, h, a⟩
theorem k_bl {c : Bool} {A : Bool → Prop} (h : A c) : ∃ c', V.bl c = .bl c' ∧ A c' := ⟨c, rfl, h⟩
end U

/-! U3: own __eq__, __repr__; f-strings; data: ==, repr. -/
namespace U
open PySem PySem.Spec L2
open PyProof.Rows hiding St
open PySem.W (Looks InstAt findIn isFn mroIn)

/-- a value's type -/
def TyIs (x : V) (H : Hp) (tb : Value) : Prop := match x with
  | .str _ => tb = .type "str"
  | .int _ => tb = .type "int"
  | .ref a => (∃ C dx fs, H a = some (.ins C dx fs) ∧ tb = .ref C) ∨ ∃ xs, H a = some (.tup xs) ∧ tb = .type "tuple"
  | _ => False
theorem ty_looks {X : Cx} {pins : List (Addr × Obj)} {σ : St} {H : Hp} {s : Shared} {x : V} {v tb : Value} {M : Model} (I : Inv X pins σ H s) (r : RelV x v) (t : TyIs x H tb) : Looks M s.heap (typeOf v) tb := by
  cases x with
  | str y =>
    obtain ⟨tk, rfl⟩ := r
    cases t
    exact .of_pure (by kernel_rfl)
  | int y =>
    obtain ⟨tk, rfl⟩ := r
    cases t
    exact .of_pure (by kernel_rfl)
  | ref a =>
    cases r
    rcases t with ⟨C, dx, fs, e, rfl⟩ | ⟨xs, e, rfl⟩
    · obtain ⟨mA, J, _⟩ := ins_get I.hok e
      obtain ⟨od, J, _⟩ := J.look
      exact J.type
    · obtain ⟨_, its, rv, o, ho, hc, _⟩ := I.hok a _ e
      exact fun A Q E s' k q => wpAny_typeOf_ref (k a o ho) (by rw [hc]; exact q)
  | _ => exact (show False from t).elim

/-- what a class with its own __eq__ and __repr__ (methods at fe, fr) and object's __ne__, __str__, __format__ has -/
structure EqC (K : PySem.W.Frag) (C fe : Addr) : Prop where
  eq : findIn K (.ref C) "__eq__" = some (some (.ref fe))
  fn : isFn K (.ref fe) = true
  ne : findIn K (.ref C) "__ne__" = some (some (.builtin "object.__ne__"))
  mro : mroIn K C (.type "object") = some true
structure RpC (K : PySem.W.Frag) (C fr : Addr) : Prop where
  rp : findIn K (.ref C) "__repr__" = some (some (.ref fr))
  fn : isFn K (.ref fr) = true
  st : findIn K (.ref C) "__str__" = some (some (.builtin "object.__str__"))
  fm : findIn K (.ref C) "__format__" = some (some (.builtin "object.__format__"))
  mro : mroIn K C (.type "object") = some true
/-- a method of this name at this address -/
def MtA (P : Program) (w : World) (K : PySem.W.Frag) (mg : Str → Option Value) (base : Heap) (f : Addr) (j : Nat) (ps : List Str) (sp : Sp) : Prop := ∃ fd, Fk P w K mg base j f fd ps sp ∧ Binds K fd ps []

section
variable {prog : Program} {w : World} {M : Model} {A : Around} {E : Value → Shared → Prop} {s : Shared} {K : PySem.W.Frag} {x C f : Addr} {ox : Obj} {od : Option Obj} {name : Str} {b tb : Value}
theorem ifBound_B {id : String} {args : List Value} {Q : Option Value → Shared → Prop} (X : K.In s.heap) (I : InstAt s.heap x ox C od) (hs : findIn K (.ref C) name = some (some (.builtin id))) (hb : ∀ self, bindSpecial (.builtin id) self = pure (.builtin id, [self]))
    (h : wpAny M A (call (.builtin id) (.ref x :: args)) (fun v => Q (some v)) E s) : wpAny M A (callSpecialIfBound? (.ref x) name args) Q E s := by
  simp only [callSpecialIfBound?, bindSpecialIfBound?]
  refine wpAny_holding (wpAny_bind (wpAny_bind (wpAny_bind (I.type.here ((PySem.W.looks_findIn X hs).here ?_)))))
  refine wpAny_bind (wpAny_askSetting (wpAny_ite ?_))
  have fin : wpAny M A (call (.builtin id) ([.ref x] ++ args) >>= fun v => pure (some v)) Q E s := wpAny_bind (wpAny_mono h (fun v s' h' => wpAny_pure h') fun _ _ h' => h')
  split
  · exact wpAny_bind ((Looks.of_pure (hb _)).here (wpAny_pure (by exact fin)))
  · exact wpAny_tryCatch (wpAny_bind ((Looks.of_pure (hb _)).here (wpAny_pure (by exact fin))))
theorem obj_ne {Q : Value → Shared → Prop} (hu : A.in1.units < cLine) (X : K.In s.heap) (I : InstAt s.heap x ox C od) (q : EqC K C f) (h : wpAny (model prog w) A.in1 (call (.ref f) [.ref x, b]) (fun v s' => ∃ c, v = .bool c ∧ Q (.bool (!c)) s') E s) :
    wpAny (model prog w) A (call (.builtin "object.__ne__") [.ref x, b]) Q E s := by
  refine wpAny_call (codeAny_call_builtin PySem.F.slot_object_ne.plain F.cmpEntry_ne (PySem.W.check_slot (i := "object.__ne__") (owner := "object") (n := "__ne__") (by decide +kernel) (by decide +kernel) (I.type.andThen (PySem.W.looks_mroIn X q.mro)) (F.cmpArgs_ne _ _) ?_))
  unfold Builtin.«object.__ne__»
  refine wpAny_bind (m := slotArgs "__ne__" 1 _) (wpAny_pure ?_)
  refine wpAny_bind (m := cRoomFor _ _) (wpAny_cRoomFor hu ?_)
  refine wpAny_bind (m := callSpecialIfBound? (.ref x) (Str.ofString "__eq__") _) (PySem.W.ifBound_K X I q.eq q.fn (wpAny_mono h (fun r s' hq => ?_) fun _ _ y => y))
  obtain ⟨c, rfl, hq⟩ := hq
  exact wpAny_bind (wpAny_truthy_bool (wpAny_pure hq))
theorem cmp_ne {Q : Value → Shared → Prop} (hu : A.units < cLine) (hu1 : A.in1.units < cLine) (X : K.In s.heap) (I : InstAt s.heap x ox C od) (hb : Looks (model prog w) s.heap (typeOf b) tb) (hn : PySem.W.notFirst K C tb = true) (q : EqC K C f)
    (h : wpAny (model prog w) A.in1 (call (.ref f) [.ref x, b]) (fun v s' => ∃ c, v = .bool c ∧ Q (.bool (!c)) s') E s) : wpAny (model prog w) A (richCompare .NotEq (.ref x) b) Q E s := by
  have one : wpAny (model prog w) A (tryCompare (.ref x) (cmpInfo .NotEq).2.1 b) (fun r s' => ∃ v, r = some v ∧ Q v s') E s := by
    unfold tryCompare
    refine wpAny_bind (ifBound_B X I q.ne PySem.F.slot_object_ne.bind (obj_ne hu1 X I q (wpAny_mono h (fun v s' hv => ?_) fun _ _ e => e)))
    obtain ⟨c, rfl, hq⟩ := hv
    exact ⟨c, rfl, wpAny_pure ⟨_, rfl, hq⟩⟩
  unfold richCompare
  simp only [oneThing_ref]
  refine wpAny_holding (wpAny_bind (wpAny_cRoomFor hu ?_))
  refine wpAny_bind (I.type.here (wpAny_bind (hb.here ?_)))
  split
  · rename_i q
    have e : PySem.W.subIn K tb (.ref C) = some false := by
      rcases Bool.or_eq_true_iff.mp hn with e | e
      · rw [beq_iff_eq.mp e] at q; simp at q
      · exact beq_iff_eq.mp e
    refine wpAny_bind ((PySem.W.looks_subIn X e).here ?_)
    simp only [Bool.false_eq_true, if_false]
    refine wpAny_bind (wpAny_mono one (fun r s' z => ?_) fun _ _ e => e)
    obtain ⟨v, rfl, hq⟩ := z
    exact wpAny_pure hq
  · refine wpAny_bind (wpAny_pure ?_)
    simp only [Bool.false_eq_true, if_false]
    refine wpAny_bind (wpAny_mono one (fun r s' z => ?_) fun _ _ e => e)
    obtain ⟨v, rfl, hq⟩ := z
    exact wpAny_pure hq
end
/-! ### by values -/
section
variable {P : Program} {w : World} {K : PySem.W.Frag} {mg : Str → Option Value} {base : Heap} {k : Nat} {VL AL : List (Option Str)} {GL : List Str} {E : WX} {X : Cx} {σ : St} {H : Hp} {Q : VK} {pos : Pos} {j : Nat} {ps : List Str} {sp : Sp} {a C dx fe fr : Addr} {fs : List (Str × V)}
theorem noE {o : List Env} {s : Shared} {e : Value} {s' : Shared} {E' : Value → Shared → Prop} (h : L2.CX P w o H s E0 e s') : E' e s' := by
  obtain ⟨_, _, _, _, _, _, _, _, _, _, _, _, z⟩ := h
  exact z.elim
theorem o_eqOwn (cx : CxI P w K mg base k VL AL GL E X) (q : EqC K C fe) (m : MtA P w K mg base fe j ps sp) (hj : Nat.ble j k = true) (ha : H a = some (.ins C dx fs)) {y : V} {tb : Value} (t : TyIs y H tb) (hn : PySem.W.notFirst K C tb = true)
    (h : sp [.ref a, y] H (fun v H' => ∃ c, v = .bl c ∧ Q (.bl c) H') E0) : Wop X (compareOp .Eq) (.ref a) y H Q := by
  intro pins s σ v u I r1 r2
  cases (show v = Value.ref a from r1)
  have rg := cx.rg' (Nat.le_of_ble_eq_true hj)
  obtain ⟨fd, F, b⟩ := m
  obtain ⟨e1, e2, e3, e4, e5, _⟩ := cx
  subst e1; subst e2; subst e3; subst e4; subst e5
  obtain ⟨mA, J, _⟩ := ins_get I.hok ha
  obtain ⟨od, J, _⟩ := J.look
  obtain ⟨m, hF⟩ := I.fr
  unfold compareOp
  refine PySem.W.cmp_K (op := .Eq) (tb := tb) rg.rm.units0 hF I.ok.mod.kin J (ty_looks I r2 t) hn q.eq q.fn ?_
  refine wpAny_mono (F.call (frm_ I) rg I b (us := [.ref a, u]) (vs := [.ref a, y]) (.cons r1 (.cons r2 .nil)) h fun e s' c => noE c) (fun z s' q => ?_) fun _ _ x => x
  obtain ⟨v', H', I', rz, c, rfl, q⟩ := q
  cases rz
  exact ⟨.bl c, H', I', rfl, q⟩
theorem o_neOwn (cx : CxI P w K mg base k VL AL GL E X) (q : EqC K C fe) (m : MtA P w K mg base fe j ps sp) (hj : Nat.ble (j + 1) k = true) (ha : H a = some (.ins C dx fs)) {y : V} {tb : Value} (t : TyIs y H tb) (hn : PySem.W.notFirst K C tb = true)
    (h : sp [.ref a, y] H (fun v H' => ∃ c, v = .bl c ∧ Q (.bl (!c)) H') E0) : Wop X (compareOp .NotEq) (.ref a) y H Q := by
  intro pins s σ v u I r1 r2
  cases (show v = Value.ref a from r1)
  have rg := cx.rg' (Nat.le_of_ble_eq_true hj)
  obtain ⟨fd, F, b⟩ := m
  obtain ⟨e1, e2, e3, e4, e5, _⟩ := cx
  subst e1; subst e2; subst e3; subst e4; subst e5
  obtain ⟨mA, J, _⟩ := ins_get I.hok ha
  obtain ⟨od, J, _⟩ := J.look
  unfold compareOp
  refine cmp_ne rg.rm.units0 rg.in1.rm.units0 I.kIn J (ty_looks I r2 t) hn q ?_
  refine wpAny_mono (F.call (A := X.A.in1) I.env0.in1.frames rg.in1 I b (us := [.ref a, u]) (vs := [.ref a, y]) (.cons r1 (.cons r2 .nil)) h fun e s' c => noE c) (fun z s' q => ?_) fun _ _ x => x
  obtain ⟨v', H', I', rz, c, rfl, q⟩ := q
  cases rz
  exact ⟨c, rfl, .bl (!c), H', I', rfl, q⟩
theorem c_reprOwn (cx : CxI P w K mg base k VL AL GL E X) (q : RpC K C fr) (m : MtA P w K mg base fr j ps sp) (hj : Nat.ble (j + 1) k = true) (ha : H a = some (.ins C dx fs)) (h : sp [.ref a] H (fun v H' => ∃ z, v = .str z ∧ Q (.str z) H') E0) : Wcall X (.builtin "repr") [.ref a] H Q := by
  intro pins s σ us I rr
  obtain ⟨u, rfl, r1⟩ := rr.one
  cases (show u = Value.ref a from r1)
  have rg := cx.rg' (Nat.le_of_ble_eq_true hj)
  obtain ⟨fd, F, b⟩ := m
  obtain ⟨e1, e2, e3, e4, e5, _⟩ := cx
  subst e1; subst e2; subst e3; subst e4; subst e5
  obtain ⟨mA, J, _⟩ := ins_get I.hok ha
  obtain ⟨od, J, _⟩ := J.look
  obtain ⟨m, hF⟩ := I.fr
  refine PySem.W.repr_K rg.in1.rm.units0 hF I.ok.mod.kin J q.rp q.fn ?_
  refine wpAny_mono (F.call (A := X.A.in1) I.env0.in1.frames rg.in1 I b (us := [.ref a]) (vs := [.ref a]) (.cons r1 .nil) h fun e s' c => noE c) (fun z s' q => ?_) fun _ _ x => x
  obtain ⟨v', H', I', rz, c, rfl, q⟩ := q
  obtain ⟨t, rfl⟩ := rz
  exact ⟨.str c, H', I', ⟨t, rfl⟩, q⟩
theorem c_strOwn (cx : CxI P w K mg base k VL AL GL E X) (q : RpC K C fr) (m : MtA P w K mg base fr j ps sp) (hj : Nat.ble (j + 3) k = true) (ha : H a = some (.ins C dx fs)) (h : sp [.ref a] H (fun v H' => ∃ z, v = .str z ∧ Q (.str z) H') E0) : Wcall X (.type "str") [.ref a] H Q := by
  intro pins s σ us I rr
  obtain ⟨u, rfl, r1⟩ := rr.one
  cases (show u = Value.ref a from r1)
  have rg := cx.rg' (Nat.le_of_ble_eq_true hj)
  obtain ⟨fd, F, b⟩ := m
  obtain ⟨e1, e2, e3, e4, e5, _⟩ := cx
  subst e1; subst e2; subst e3; subst e4; subst e5
  obtain ⟨mA, J, _⟩ := ins_get I.hok ha
  obtain ⟨od, J, _⟩ := J.look
  refine PySem.W.kfo_call rg.in1.in1.rm.units0 rg.in1.in1.in1.rm.units0 I.kIn J q.st q.mro q.rp q.fn ?_
  refine wpAny_mono (F.call (A := X.A.in1.in1.in1) I.env0.in1.in1.in1.frames rg.in1.in1.in1 I b (us := [.ref a]) (vs := [.ref a]) (.cons r1 .nil) h fun e s' c => noE c) (fun z s' q => ?_) fun _ _ x => x
  obtain ⟨v', H', I', rz, c, rfl, q⟩ := q
  obtain ⟨t, rfl⟩ := rz
  exact ⟨.str c, H', I', ⟨t, rfl⟩, q⟩
/-! ### f-strings -/
def Wfm (X : Cx) (x : V) (H : Hp) (Q : VK) : Prop := ∀ (pins : List (Addr × Obj)) (s : Shared) (σ : St) (v : Value), Inv X pins σ H s → RelV x v → wpAny (model X.prog X.w) X.A (formatField v Str.empty) (EP X pins σ Q) X.xe s
theorem w_fmt {e : Expr} (h : We X e σ H fun x H1 => Wfm X x H1 Q) : We X (.FormattedValue e (-1) none pos) σ H Q := fun pins s I =>
  wpAny_FormattedValue_plain (thn (h pins s I) fun v s1 ⟨x, H1, I1, r, q⟩ => q pins s1 σ v I1 r)
theorem f_str {y : Str} (hl : y.length ≤ sizeLine) (h : Q (.str y) H) : Wfm X (.str y) H Q := by
  intro pins s σ v I r
  obtain ⟨t, rfl⟩ := r
  exact wpAny_formatField_str ⟨.str y, H, I, ⟨t, rfl⟩, h⟩ ⟨.str y, H, I.tok _, ⟨_, rfl⟩, h⟩ hl
theorem f_int {i : Int} (hl : i.natAbs.log2 < 1920) (h : Q (.str (toString i)) H) : Wfm X (.int i) H Q := by
  intro pins s σ v I r
  obtain ⟨t, rfl⟩ := r
  exact wpAny_formatField_int hl ⟨.str (toString i), H, I.tok _, ⟨_, rfl⟩, h⟩
theorem f_own (cx : CxI P w K mg base k VL AL GL E X) (q : RpC K C fr) (m : MtA P w K mg base fr j ps sp) (hj : Nat.ble (j + 2) k = true) (ha : H a = some (.ins C dx fs)) (h : sp [.ref a] H (fun v H' => ∃ z, v = .str z ∧ Q (.str z) H') E0) : Wfm X (.ref a) H Q := by
  intro pins s σ u I r1
  cases (show u = Value.ref a from r1)
  have rg := cx.rg' (Nat.le_of_ble_eq_true hj)
  obtain ⟨fd, F, b⟩ := m
  obtain ⟨e1, e2, e3, e4, e5, _⟩ := cx
  subst e1; subst e2; subst e3; subst e4; subst e5
  obtain ⟨mA, J, _⟩ := ins_get I.hok ha
  obtain ⟨od, J, _⟩ := J.look
  have I1 := I.tok (s.toks + 1)
  refine PySem.W.kfo_fieldR rg.in1.rm.units0 rg.in1.in1.rm.units0 I.kIn J q.fm q.mro q.st q.rp q.fn ?_
  refine wpAny_mono (F.call (A := X.A.in1.in1) I1.env0.in1.in1.frames rg.in1.in1 I1 b (us := [.ref a]) (vs := [.ref a]) (.cons r1 .nil) h fun e s' c => noE c) (fun z s' q => ?_) fun _ _ x => x
  obtain ⟨v', H', I', rz, c, rfl, q⟩ := q
  obtain ⟨t, rfl⟩ := rz
  exact ⟨.str c, H', I', ⟨t, rfl⟩, q⟩
/-- the parts es of a text, behind acc -/
def Wj (X : Cx) (es : List Expr) (acc : Str) (σ : St) (H : Hp) (Q : Str → Hp → Prop) : Prop := tJs (es.map (We X)) acc σ H Q
theorem pjU : ∀ {es : List Expr}, PJ X es (es.map (We X))
  | [] => .nil
  | _ :: _ => .cons peU pjU
theorem w_joined {v1 v2 : Expr} {rest : List Expr} (h : Wj X (v1 :: v2 :: rest) Str.empty σ H fun out H1 => Q (.str out) H1) : We X (.JoinedStr (v1 :: v2 :: rest) pos) σ H Q := ofPE (pe_joined pjU) h
theorem w_joined1 {e : Expr} (h : We X e σ H Q) : We X (.JoinedStr [e] pos) σ H Q := ofPE (pe_joined1 peU) h
theorem wj_nil {acc : Str} {Q : Str → Hp → Prop} (h : Q acc H) : Wj X [] acc σ H Q := h
theorem wj_cons {e : Expr} {es : List Expr} {acc : Str} {Q : Str → Hp → Prop} (h : We X e σ H fun x H1 => ∃ y : Str, x = .str y ∧ (acc ++ y).length ≤ sizeLine ∧ Wj X es (acc ++ y) σ H1 Q) : Wj X (e :: es) acc σ H Q := h
theorem k_str {y : Str} {A : Str → Prop} {L : Prop} {f : Str → Str} (hl : (f y).length ≤ sizeLine) (h : A y) : ∃ z : Str, V.str y = .str z ∧ (f z).length ≤ sizeLine ∧ A z := ⟨y, rfl, hl, h⟩
theorem k_sj {acc y : Str} {A : Str → Prop} {n : Nat} (hl : (acc ++ y).length ≤ n) (hn : Nat.ble n 16777216 = true) (h : A y) : ∃ z : Str, V.str y = .str z ∧ (acc ++ z).length ≤ sizeLine ∧ A z := ⟨y, rfl, Nat.le_trans hl (Nat.le_of_ble_eq_true hn), h⟩
theorem k_s1 {y : Str} {A : Str → Prop} (h : A y) : ∃ z : Str, V.str y = .str z ∧ A z := ⟨y, rfl, h⟩
/-- lengths -/
theorem l_app {x y : Str} {m n : Nat} (a : x.length ≤ m) (b : y.length ≤ n) : (x ++ y).length ≤ m + n := by rw [strLen_append]; omega
theorem l_emp : Str.empty.length ≤ 0 := Nat.le_refl _
theorem l_int {i : Int} (h : i.natAbs.log2 < 1920) : (Str.ofString (toString i)).length ≤ 1921 := PyProof.Rows.int_text_len_1921 h
theorem log_ok {i : Int} (h : -1606938044258990275541962092341162602522202993782792835301376 < i ∧ i < 1606938044258990275541962092341162602522202993782792835301376) : i.natAbs.log2 < 1920 := by
  have z : i.natAbs < 2 ^ 200 := by omega
  exact Nat.lt_trans (PySem.Flt.log2_lt_of (by decide) z) (by decide)
/-! ### data -/
variable {R : Hp → Prop} {M : List (Addr × (HO → Prop))} {L : List (Addr × Obj)} {xs : List V} {ds : List PyData}
theorem d_tup (kn : Kn R M L H) (en : Ent R (Ex a (.tup xs))) (h : DpAll K H xs ds) : Dp K H (.ref a) (.tuple ds) := .tup (.inl (.inl (kn.get en))) h
theorem d_lst (kn : Kn R M L H) (en : Has a (Is (.lst xs)) M) (h : DpAll K H xs ds) : Dp K H (.ref a) (.list ds) := .lst (.inl (.inl (kn.is en))) h
theorem d_lstX (kn : Kn R M L H) (en : Ent R (Ex a (.lst xs))) (h : DpAll K H xs ds) : Dp K H (.ref a) (.list ds) := .lst (.inl (.inl (kn.get en))) h
end
mutual
/-- ints, texts, None, tuples and lists of them -/
def pl : PyData → Bool
  | .none => true
  | .bool _ => false
  | .int _ => true
  | .str _ => true
  | .list xs => plAll xs
  | .tuple xs => plAll xs
  | .dict _ => false
def plAll : List PyData → Bool
  | [] => true
  | x :: xs => pl x && plAll xs
end
mutual
theorem eqv_iff : ∀ (d e : PyData), pl d = true → pl e = true → (PyData.eqv d e = true ↔ d = e)
  | .none, e, _, he => by cases e <;> simp_all [PyData.eqv, pl]
  | .bool _, e, hd, he => by simp [pl] at hd
  | .int i, e, _, he => by cases e <;> simp_all [PyData.eqv, pl]
  | .str i, e, _, he => by cases e <;> simp_all [PyData.eqv, pl]
  | .list xs, e, hd, he => by
    cases e with
    | list ys =>
      have z := eqv_iffAll xs ys (by simpa [pl] using hd) (by simpa [pl] using he)
      simp [PyData.eqv, z]
    | _ => simp_all [PyData.eqv, pl]
  | .tuple xs, e, hd, he => by
    cases e with
    | tuple ys =>
      have z := eqv_iffAll xs ys (by simpa [pl] using hd) (by simpa [pl] using he)
      simp [PyData.eqv, z]
    | _ => simp_all [PyData.eqv, pl]
  | .dict _, e, hd, he => by simp [pl] at hd
theorem eqv_iffAll : ∀ (xs ys : List PyData), plAll xs = true → plAll ys = true → (PyData.eqvAll xs ys = true ↔ xs = ys)
  | [], [], _, _ => by simp [PyData.eqvAll]
  | [], _ :: _, _, _ => by simp [PyData.eqvAll]
  | _ :: _, [], _, _ => by simp [PyData.eqvAll]
  | x :: xs, y :: ys, hd, he => by
    simp only [plAll, Bool.and_eq_true] at hd he
    have z := eqv_iff x y hd.1 he.1
    have z2 := eqv_iffAll xs ys hd.2 he.2
    simp [PyData.eqvAll, z, z2]
end
section
variable {P : Program} {w : World} {K : PySem.W.Frag} {mg : Str → Option Value} {base : Heap} {k : Nat} {VL AL : List (Option Str)} {GL : List Str} {E : WX} {X : Cx} {σ : St} {H : Hp} {Q : VK} {x y : V} {d e : PyData} {a : Addr}
theorem o_eqD (cx : CxI P w K mg base k VL AL GL E X) (hd : Dp K H x d) (he : Dp K H y e) (sd : SeqAt.shaped d = true) (se : SeqAt.shaped e = true) (pd : pl d = true) (pe : pl e = true) (h : ∀ c : Bool, (c = true ↔ d = e) → Q (.bl c) H) : Wop X (compareOp .Eq) x y H Q := by
  have e3 := cx.eK
  subst e3
  exact ofOp (op_eqD cx.room.units) ⟨d, e, hd, he, sd, se, h _ (eqv_iff d e pd pe)⟩
theorem o_neD (cx : CxI P w K mg base k VL AL GL E X) (hd : Dp K H x d) (he : Dp K H y e) (sd : SeqAt.shaped d = true) (se : SeqAt.shaped e = true) (pd : pl d = true) (pe : pl e = true) (h : ∀ c : Bool, (c = true ↔ d = e) → Q (.bl (!c)) H) : Wop X (compareOp .NotEq) x y H Q := by
  have e3 := cx.eK
  subst e3
  exact ofOp (op_neD cx.room.units) ⟨d, e, hd, he, sd, se, h _ (eqv_iff d e pd pe)⟩
theorem c_reprD (cx : CxI P w K mg base k VL AL GL E X) (hd : Dp K H (.ref a) d) (sh : d.showable = true) (nd : d.hasDict = false) (hp : d.depth ≤ 100) (hz : d.shown.length ≤ sizeLine) (h : Q (.str d.shown) H) : Wcall X (.builtin "repr") [.ref a] H Q := by
  intro pins s σ us I rr
  obtain ⟨u, rfl, r1⟩ := rr.one
  have e3 := cx.eK
  subst e3
  obtain ⟨as, r⟩ := Dp.reads I d _ u hd r1
  cases (show u = Value.ref a from r1)
  refine repr_of_reads' r sh (PyData.noDict_hsm nd) cx.gd ?_ (fun _ _ e => e) (fun h' u tk hk => ?_) hz
  · have := cx.room.un
    omega
  · exact ⟨.str d.shown, H, I.kept hk, ⟨u, rfl⟩, h⟩
end
end U

/-! U4: loops, comprehensions. -/
namespace U
open PySem PySem.Spec L2
open PySem.W (findIn)
open PyProof.Rows hiding St

/-- an iterator that yields f 0, .., f (n - 1) while S stands -/
structure ItW (J : It) (n : Nat) (f : Nat → V) (S : Hp → Prop) : Prop where
  stop : ∀ H, S H → J.stop n H
  go : ∀ i H, i < n → S H → J.go i H
  yld : ∀ i H x H', i < n → S H → J.yld i H x H' → x = f i ∧ H' = H
theorem itw_list {K : PySem.W.Frag} {a : Addr} {xs : List V} : ItW (Itl K a) xs.length (fun i => xs.getD i .non) (fun H => SqL K H a xs) :=
  ⟨fun H h => ⟨xs, h, Nat.le_refl _⟩, fun i H hi h => ⟨xs, xs[i], h, by simp [hi]⟩, fun i H x H' hi h y => by
    obtain ⟨e, y⟩ := y
    have z := y xs h
    exact ⟨by rw [List.getD_eq_getElem?_getD, z]; rfl, e⟩⟩
theorem itw_tup {K : PySem.W.Frag} {a : Addr} {xs : List V} : ItW (Itt K a) xs.length (fun i => xs.getD i .non) (fun H => SqT K H a xs) :=
  ⟨fun H h => ⟨xs, h, Nat.le_refl _⟩, fun i H hi h => ⟨xs, xs[i], h, by simp [hi]⟩, fun i H x H' hi h y => by
    obtain ⟨e, y⟩ := y
    have z := y xs h
    exact ⟨by rw [List.getD_eq_getElem?_getD, z]; rfl, e⟩⟩
theorem itw_rng {lo : Int} {n : Nat} : ItW (Itr lo n) n (fun i => .int (lo + i)) (fun _ => True) :=
  ⟨fun _ _ => Nat.le_refl _, fun _ _ hi _ => hi, fun _ _ _ _ _ _ y => ⟨y.2, y.1⟩⟩
theorem itw_str {x : Str} : ItW (Its x) x.cps.size (fun i => .str ⟨#[x.cps.getD i 0]⟩) (fun _ => True) :=
  ⟨fun _ _ => Nat.le_refl _, fun _ _ hi _ => hi, fun i H v H' hi _ y => by
    obtain ⟨e, c, hc, rfl⟩ := y
    refine ⟨?_, e⟩
    have z : x.cps.getD i 0 = c := by rw [Array.getD_eq_getD_getElem?, hc]; rfl
    rw [z]⟩
theorem itw_keys {d : Addr} {o : Obj} {kvs : List (Key × V)} : ItW (Itk d o kvs) kvs.length (fun i => ((kvs.map fun p => kV p.1).getD i .non)) (fun H => H d = some (.frz o (.dK kvs))) :=
  ⟨fun H h => ⟨h, Nat.le_refl _⟩, fun i H hi h => ⟨h, hi⟩, fun i H x H' hi h y => by
    obtain ⟨e, k, v, hk, rfl⟩ := y
    refine ⟨?_, e⟩
    rw [List.getD_eq_getElem?_getD, List.getElem?_map, hk]
    rfl⟩

section
variable {P : Program} {w : World} {K : PySem.W.Frag} {mg : Str → Option Value} {base : Heap} {k : Nat} {VL AL : List (Option Str)} {GL : List Str} {E : WX} {X : Cx} {σ : St} {H : Hp} {Q : VK} {pos : Pos} {tg iter : Expr} {nx : St → Hp → Prop} {rt : VK} {bk ct : St → Hp → Prop} {rest body : List Stmt}
/-! ### what is walked -/
theorem wi_lst (cx : CxI P w K mg base k VL AL GL E X) {R : It → Hp → Prop} (h : We X iter σ H fun x H1 => ∃ a xs, x = .ref a ∧ SqL K H1 a xs ∧ R (Itl K a) H1) : Wi X tg iter σ H R := by
  have e3 := cx.eK
  subst e3
  exact ofPI (pi_list peU) fun pins s I => thn (h pins s I) fun v s1 ⟨x, H1, I1, r, a, xs, e, q, z⟩ => ⟨x, H1, I1, r, a, e, ⟨xs, q⟩, z⟩
theorem wi_tup (cx : CxI P w K mg base k VL AL GL E X) {R : It → Hp → Prop} (h : We X iter σ H fun x H1 => ∃ a xs, x = .ref a ∧ SqT K H1 a xs ∧ R (Itt K a) H1) : Wi X tg iter σ H R := by
  have e3 := cx.eK
  subst e3
  exact ofPI (pi_tup peU) fun pins s I => thn (h pins s I) fun v s1 ⟨x, H1, I1, r, a, xs, e, q, z⟩ => ⟨x, H1, I1, r, a, e, ⟨xs, q⟩, z⟩
theorem wi_str {R : It → Hp → Prop} (h : We X iter σ H fun x H1 => ∃ y, x = .str y ∧ R (Its y) H1) : Wi X tg iter σ H R := ofPI (pi_str peU) h
theorem wi_keys {R : It → Hp → Prop} (h : We X iter σ H fun x H1 => ∃ d o kvs, x = .ref d ∧ H1 d = some (.frz o (.dK kvs)) ∧ R (Itk d o kvs) H1) : Wi X tg iter σ H R :=
  ofPI (pi_keys peU) fun pins s I => thn (h pins s I) fun v s1 ⟨x, H1, I1, r, d, o, kvs, e, q, z⟩ => ⟨x, H1, I1, r, d, o, e, .inl ⟨kvs, q, z⟩⟩
theorem wi_rng1 (cx : CxI P w K mg base k VL AL GL E X) (hg : In ("range" : Str) GL) {a : Expr} {p : Pos} {R : It → Hp → Prop} (h : We X a σ H fun x H1 => ∃ j : Int, x = .int j ∧ -(4611686018427387904) ≤ j ∧ j < 4611686018427387904 ∧ R (Itr 0 j.toNat) H1)
    (hs : starEach [a] X.env = [(false, eval a X.env)] := by kernel_rfl) : Wi X tg (.Call (.Name "range" p) [a] [] pos) σ H R := by
  refine ofPI (pi_range1 (cx.gl hg).1 (cx.bltn (by decide +kernel)) (pa_cons peU pa_nil (by rw [hs]; rfl)) hs) ?_
  exact fun pins s I => thn (h pins s I) fun v s1 ⟨x, H1, I1, r, j, e, q1, q2, z⟩ => ⟨x, H1, I1, r, j, by rw [e], q1, q2, z⟩
theorem wi_rng2 (cx : CxI P w K mg base k VL AL GL E X) (hg : In ("range" : Str) GL) {a b : Expr} {p : Pos} {R : It → Hp → Prop} (h : We X a σ H fun x H1 => We X b σ H1 fun y H2 => ∃ i j : Int, x = .int i ∧ y = .int j ∧ (-(4611686018427387904) ≤ i ∧ i < 4611686018427387904 ∧ -(4611686018427387904) ≤ j ∧ j < 4611686018427387904) ∧ R (Itr i (j - i).toNat) H2)
    (hs : starEach [a, b] X.env = [(false, eval a X.env), (false, eval b X.env)] := by kernel_rfl) (hs2 : starEach [b] X.env = [(false, eval b X.env)] := by kernel_rfl) : Wi X tg (.Call (.Name "range" p) [a, b] [] pos) σ H R := by
  refine ofPI (pi_range2 (cx.gl hg).1 (cx.bltn (by decide +kernel)) (pa_cons peU (pa_cons peU pa_nil (by rw [hs2]; rfl)) (by rw [hs, hs2])) hs hs2) ?_
  refine fun pins s I => thn (h pins s I) fun v s1 ⟨x, H1, I1, r, q⟩ => ⟨x, H1, I1, r, fun pins s I => thn (q pins s I) fun v s1 ⟨y, H2, I2, r2, i, j, e1, e2, c, z⟩ => ⟨y, H2, I2, r2, i, j, by rw [e1, e2], c, z⟩⟩
/-! ### for -/
theorem s_forW (cx : CxI P w K mg base k VL AL GL E X)
    (h : Wi X tg iter σ H fun J H1 => ∃ n f S, ItW J n f S ∧ ∃ Pv : Nat → St → Hp → Prop, Pv 0 σ H1 ∧ (∀ i σ H, i ≤ n → Pv i σ H → S H) ∧
      (∀ i σ H, i < n → Pv i σ H → Wg X tg (f i) σ H fun σ2 H2 => Wss X body ⟨Pv (i + 1), rt, fun σ' H' => Wss X rest ⟨nx, rt, bk, ct⟩ σ' H', Pv (i + 1)⟩ σ2 H2) ∧ ∀ σ H, Pv n σ H → Wss X rest ⟨nx, rt, bk, ct⟩ σ H)
    (hs : ∀ x, foldedSetIterable iter X.env x = pure x := by exact (fun _ => by kernel_rfl)) : Wss X (.For tg iter body [] pos :: rest) ⟨nx, rt, bk, ct⟩ σ H := by
  refine s_for cx (fun pins s I => thn (h pins s I) fun v s1 q => thn q fun itv s2 q => ?_) hs
  obtain ⟨it, fp, tn, J, H', e, I', T, t0, fpk, n, f, S, W, Pv, p0, pS, step, fin⟩ := q
  refine ⟨it, fp, tn, J, H', e, I', T, t0, fpk, fun i m σ H => m = n - i ∧ i ≤ n ∧ Pv i σ H, ⟨n, by simp, Nat.zero_le _, p0⟩, ?_⟩
  rintro i m σ H ⟨rfl, hi, p⟩
  by_cases hlt : i < n
  · refine .inr ⟨W.go i H hlt (pS i σ H hi p), Pv (i + 1), fun σ' H' p' => ⟨n - (i + 1), by omega, rfl, hlt, p'⟩, fun x H' y => ?_⟩
    obtain ⟨rfl, rfl⟩ := W.yld i H x H' hlt (pS i σ H hi p) y
    exact step i σ _ hlt p
  · have e : i = n := by omega
    subst e
    exact .inl ⟨W.stop H (pS _ σ H hi p), fin σ H p⟩
/-! ### comprehensions -/
def relN (nb ns : List (Str × NameKind)) : List (Str × NameKind) := nb.map fun (n, k) => if (k == .free && ns.lookup n == some .cell) then (n, .cell) else (n, k)
def blkB (N : List Str) (ns : List (Str × NameKind)) (scope : Scope) (own : List (Str × Nat)) (VL AL : List (Option Str)) (GL : List Str) : Bool :=
  scope.kind == .function && scope.names.all (fun y => scope.names.lookup y.1 == some y.2) && own.all (fun p => N[p.2]? == some p.1) &&
  scope.names.all (fun y => !(y.2 == .free) || ns.lookup y.1 == some .cell || ns.lookup y.1 == some .free) &&
  scope.names.all (fun y => !(y.2 == .local || y.2 == .cell) || (own.map (·.1)).contains y.1 || !(N.contains y.1)) &&
  okAll N (relN scope.names ns) VL AL GL && AL.all (fun o => match o with | none => true | some x => (relN scope.names ns).lookup x == some .local || scope.names.lookup x == some .cell)
theorem blk_ok {N : List Str} {ns : List (Str × NameKind)} {sc scope : Scope} {own : List (Str × Nat)} {VL AL : List (Option Str)} {GL : List Str} (h : blkB N ns scope own VL AL GL = true) (e : sc.names = ns) : BlkOk N sc scope own := by
  unfold blkB at h
  simp only [Bool.and_eq_true] at h
  obtain ⟨⟨⟨⟨⟨⟨h1, h2⟩, h3⟩, h4⟩, h5⟩, _⟩, _⟩ := h
  subst e
  refine ⟨eq_of_beq h1, fun y hy => ?_, fun p hp => ?_, fun y hy hf => ?_, fun y hy hf => ?_⟩
  · have z := List.all_eq_true.mp h2 y hy
    exact beq_iff_eq.mp z
  · have z := List.all_eq_true.mp h3 p hp
    exact beq_iff_eq.mp z
  · have z := List.all_eq_true.mp h4 y hy
    rw [hf] at z
    simp only [beq_self_eq_true, Bool.not_true, Bool.false_or, Bool.or_eq_true, beq_iff_eq] at z
    exact z
  · have z := List.all_eq_true.mp h5 y hy
    simp only [Bool.or_eq_true, Bool.not_eq_true', Bool.or_eq_false_iff, List.contains_iff_mem, beq_eq_false_iff_ne] at z
    rcases z with (z | z) | z
    · rcases hf with f | f
      · exact absurd f z.1
      · exact absurd f z.2
    · exact .inl z
    · refine .inr fun q => ?_
      have q' : N.contains y.1 = true := by simpa using q
      rw [q'] at z
      cases z
theorem blk_cx {N : List Str} {ns : List (Str × NameKind)} {scope : Scope} {own : List (Str × Nat)} {VL' AL' : List (Option Str)} {GL' : List Str} (cx : CxI P w K mg base k VL AL GL E X) (cn : CxN N ns X) (h : blkB N ns scope own VL' AL' GL' = true) (s : Shared) (H : Hp) (C : Addr) (cl : List (Str × Addr)) (fp : List Addr) :
    CxI P w K mg base k VL' AL' GL' W0 (X.blk s H scope (compEnvC scope cl C X.env) fp) ∧ CxN N (relN scope.names ns) (X.blk s H scope (compEnvC scope cl C X.env) fp) := by
  have hk := cn.kd
  have hn := cn.ns
  have e : (compEnvC scope cl C X.env).scope.names = relN scope.names ns := by
    show (relS scope X.env.scope).names = _
    unfold relS relN
    rw [hk, hn]
    simp
  unfold blkB at h
  simp only [Bool.and_eq_true] at h
  obtain ⟨⟨⟨⟨⟨⟨h1, _⟩, _⟩, _⟩, _⟩, h6⟩, h7⟩ := h
  refine ⟨⟨cx.eP, cx.ew, cx.eK, cx.em, cx.eb, cx.nd, ?_, fun x => ?_, cx.room, cx.gd, cx.calm, PassesOwn.never, takes0, cx.bl⟩, ⟨cn.n, e, eq_of_beq h1⟩⟩
  · show okAll X.N (compEnvC scope cl C X.env).scope.names VL' AL' GL' = true
    rw [e, cn.n]
    exact h6
  · by_cases hx : some x ∈ AL'
    · have z := List.all_eq_true.mp h7 _ hx
      rcases Bool.or_eq_true _ _ ▸ z with z | z
      · refine .inr (.inr ?_)
        show (compEnvC scope cl C X.env).scope.names.lookup x = some .local
        rw [e]
        exact beq_iff_eq.mp z
      · exact .inl z
    · exact .inr (.inl hx)
theorem yes_ {σ : St} {H : Hp} {Q : Bool → Hp → Prop} (h : Q true H) : tYes σ H Q := h
/-- [elt for tg in iter] -/
theorem w_lc0 {N : List Str} {ns : List (Str × NameKind)} {scope : Scope} {elt : Expr} (own : List (Str × Nat)) (VL' AL' : List (Option Str)) (GL' : List Str) (cx : CxI P w K mg base k VL AL GL E X) (cn : CxN N ns X) (hb : blkB N ns scope own VL' AL' GL' = true)
    (h : Wi X tg iter σ H fun J H1 => ∃ n f S, ItW J n f S ∧ ∃ (Iv : Addr → Nat → List V → Hp → Prop), (∃ R M L, Kn R M L H1 ∧ ∀ D H2, Kn R ((D, Is (.lst [])) :: M) L H2 → Iv D 0 [] H2) ∧ (∀ D i acc H, i ≤ n → Iv D i acc H → S H) ∧
      (∀ D i acc H, i < n → Iv D i acc H → ∀ X', CxI P w K mg base k VL' AL' GL' W0 X' → Wg X' tg (f i) (wipe σ (own.map (·.2))) H fun σ2 H2 => wipe σ2 (own.map (·.2)) = wipe σ (own.map (·.2)) ∧ ∀ X', CxI P w K mg base k VL' AL' GL' W0 X' → CxN N (relN scope.names ns) X' →
        We X' elt σ2 H2 fun y H4 => ∃ R M L, Kn R ((D, Is (.lst acc)) :: M) L H4 ∧ acc.length < 1000000 ∧ ∀ H5, Kn R ((D, Is (.lst (acc ++ [y]))) :: M) L H5 → Iv D (i + 1) (acc ++ [y]) H5) ∧ ∀ D acc H, Iv D n acc H → Q (.ref D) H)
    (hs : ∀ x, foldedSetIterable iter X.env x = pure x := by exact (fun _ => by kernel_rfl)) : We X (.ListComp elt [⟨tg, iter, [], 0⟩] scope pos) σ H Q := by
  have bc := @blk_cx P w K mg base k VL AL GL E X N ns scope own VL' AL' GL' cx cn hb
  refine ofPE (pe_lc (own := own) (g := fun v σ H Q => ∀ X', CxI P w K mg base k VL' AL' GL' W0 X' → Wg X' tg v σ H Q) (tt := tYes) (te := fun σ H Q => ∀ X', CxI P w K mg base k VL' AL' GL' W0 X' → CxN N (relN scope.names ns) X' → We X' elt σ H Q) cx.calm cx.nd piU ?_
    (fun s H C cl fp => ⟨fun pins s' σ H v u Q I r q => q _ (bc s _ C cl fp).1 pins s' u I r⟩) (fun _ _ _ _ _ => pts_nil) (fun s H C cl fp => ⟨fun pins s' σ H Q I q => q _ (bc s _ C cl fp).1 (bc s _ C cl fp).2 pins s' I⟩) hs) ?_
  · rw [cn.n]
    exact blk_ok hb cn.ns
  · refine fun pins s I => thn (h pins s I) fun v s1 q => thn q fun itv s2 q => ?_
    obtain ⟨it, fp, tn, J, H', e, I', T, t0, fpk, n, f, S, W, Iv, ⟨R, M, L, kn, p0⟩, pS, step, fin⟩ := q
    refine ⟨it, fp, tn, J, H', e, I', T, t0, fpk, fun D hD => ⟨fun i m H => m = n - i ∧ i ≤ n ∧ ∃ acc, Iv D i acc H, ⟨n, by simp, Nat.zero_le _, [], p0 D _ (kn.new hD rfl)⟩, ?_⟩⟩
    rintro i m H ⟨rfl, hi, acc, p⟩
    by_cases hlt : i < n
    · refine .inr ⟨W.go i H hlt (pS D i acc H hi p), fun H => ∃ acc, Iv D (i + 1) acc H, fun H' p' => ⟨n - (i + 1), by omega, rfl, hlt, p'⟩, fun x H' y => ?_⟩
      obtain ⟨rfl, rfl⟩ := W.yld i H x H' hlt (pS D i acc H hi p) y
      intro X' cx'
      refine fun pins s u I r => thn (step D i acc _ hlt p X' cx' pins s u I r) fun _ s' ⟨σ2, H2, I2, e2, q⟩ => ⟨σ2, H2, I2, e2, ?_⟩
      refine yes_ ?_
      refine iteT ?_
      intro X2 cx2 cn2
      refine fun pins s I => thn (q X2 cx2 cn2 pins s I) fun u s' ⟨y, H4, I4, r4, R, M, L, kn, hl, z⟩ => ⟨y, H4, I4, r4, acc, kn.is .h, Nat.lt_trans hl (by decide), ?_⟩
      exact ⟨_, z _ (kn.write .h rfl)⟩
    · have e : i = n := by omega
      subst e
      exact .inl ⟨W.stop H (pS D _ acc H hi p), fin D acc H p⟩
/-- [elt for tg in iter if c] -/
theorem w_lc1 {N : List Str} {ns : List (Str × NameKind)} {scope : Scope} {elt c : Expr} (own : List (Str × Nat)) (VL' AL' : List (Option Str)) (GL' : List Str) (cx : CxI P w K mg base k VL AL GL E X) (cn : CxN N ns X) (hb : blkB N ns scope own VL' AL' GL' = true)
    (h : Wi X tg iter σ H fun J H1 => ∃ n f S, ItW J n f S ∧ ∃ (Iv : Addr → Nat → List V → Hp → Prop), (∃ R M L, Kn R M L H1 ∧ ∀ D H2, Kn R ((D, Is (.lst [])) :: M) L H2 → Iv D 0 [] H2) ∧ (∀ D i acc H, i ≤ n → Iv D i acc H → S H) ∧
      (∀ D i acc H, i < n → Iv D i acc H → ∀ X', CxI P w K mg base k VL' AL' GL' W0 X' → Wg X' tg (f i) (wipe σ (own.map (·.2))) H fun σ2 H2 => wipe σ2 (own.map (·.2)) = wipe σ (own.map (·.2)) ∧ ∀ X', CxI P w K mg base k VL' AL' GL' W0 X' → CxN N (relN scope.names ns) X' →
        Wt X' c σ2 H2 fun b H3 => if b = true then ∀ X', CxI P w K mg base k VL' AL' GL' W0 X' → CxN N (relN scope.names ns) X' → We X' elt σ2 H3 fun y H4 => ∃ R M L, Kn R ((D, Is (.lst acc)) :: M) L H4 ∧ acc.length < 1000000 ∧ ∀ H5, Kn R ((D, Is (.lst (acc ++ [y]))) :: M) L H5 → Iv D (i + 1) (acc ++ [y]) H5
          else Iv D (i + 1) acc H3) ∧ ∀ D acc H, Iv D n acc H → Q (.ref D) H)
    (hs : ∀ x, foldedSetIterable iter X.env x = pure x := by exact (fun _ => by kernel_rfl)) : We X (.ListComp elt [⟨tg, iter, [c], 0⟩] scope pos) σ H Q := by
  have bc := @blk_cx P w K mg base k VL AL GL E X N ns scope own VL' AL' GL' cx cn hb
  refine ofPE (pe_lc (own := own) (g := fun v σ H Q => ∀ X', CxI P w K mg base k VL' AL' GL' W0 X' → Wg X' tg v σ H Q) (tt := fun σ H Q => ∀ X', CxI P w K mg base k VL' AL' GL' W0 X' → CxN N (relN scope.names ns) X' → Wt X' c σ H Q) (te := fun σ H Q => ∀ X', CxI P w K mg base k VL' AL' GL' W0 X' → CxN N (relN scope.names ns) X' → We X' elt σ H Q) cx.calm cx.nd piU ?_
    (fun s H C cl fp => ⟨fun pins s' σ H v u Q I r q => q _ (bc s _ C cl fp).1 pins s' u I r⟩) (fun s H C cl fp => pts_one ⟨fun pins s' σ H Q I q => q _ (bc s _ C cl fp).1 (bc s _ C cl fp).2 pins s' I⟩) (fun s H C cl fp => ⟨fun pins s' σ H Q I q => q _ (bc s _ C cl fp).1 (bc s _ C cl fp).2 pins s' I⟩) hs) ?_
  · rw [cn.n]
    exact blk_ok hb cn.ns
  · refine fun pins s I => thn (h pins s I) fun v s1 q => thn q fun itv s2 q => ?_
    obtain ⟨it, fp, tn, J, H', e, I', T, t0, fpk, n, f, S, W, Iv, ⟨R, M, L, kn, p0⟩, pS, step, fin⟩ := q
    refine ⟨it, fp, tn, J, H', e, I', T, t0, fpk, fun D hD => ⟨fun i m H => m = n - i ∧ i ≤ n ∧ ∃ acc, Iv D i acc H, ⟨n, by simp, Nat.zero_le _, [], p0 D _ (kn.new hD rfl)⟩, ?_⟩⟩
    rintro i m H ⟨rfl, hi, acc, p⟩
    by_cases hlt : i < n
    · refine .inr ⟨W.go i H hlt (pS D i acc H hi p), fun H => ∃ acc, Iv D (i + 1) acc H, fun H' p' => ⟨n - (i + 1), by omega, rfl, hlt, p'⟩, fun x H' y => ?_⟩
      obtain ⟨rfl, rfl⟩ := W.yld i H x H' hlt (pS D i acc H hi p) y
      intro X' cx'
      refine fun pins s u I r => thn (step D i acc _ hlt p X' cx' pins s u I r) fun _ s' ⟨σ2, H2, I2, e2, q⟩ => ⟨σ2, H2, I2, e2, ?_⟩
      intro X2 cx2 cn2
      refine fun pins s I => thn (q X2 cx2 cn2 pins s I) fun b s' ⟨H3, I3, q⟩ => ⟨H3, I3, ?_⟩
      cases b with
      | false =>
        rw [if_neg Bool.false_ne_true] at q ⊢
        exact ⟨acc, q⟩
      | true =>
        rw [if_pos rfl] at q ⊢
        intro X2 cx2 cn2
        refine fun pins s I => thn (q X2 cx2 cn2 pins s I) fun u s' ⟨y, H4, I4, r4, R, M, L, kn, hl, z⟩ => ⟨y, H4, I4, r4, acc, kn.is .h, Nat.lt_trans hl (by decide), ?_⟩
        exact ⟨_, z _ (kn.write .h rfl)⟩
    · have e : i = n := by omega
      subst e
      exact .inl ⟨W.stop H (pS D _ acc H hi p), fin D acc H p⟩
end
end U

/-! U5: classmethods, classes by a local name, methods of texts and lists. -/
namespace U
open PySem PySem.Spec L2
open PySem.W (findIn)
open PyProof.Rows hiding St
section
variable {P : Program} {w : World} {K : PySem.W.Frag} {mg : Str → Option Value} {base : Heap} {k : Nat} {VL AL : List (Option Str)} {GL : List Str} {E : WX} {X : Cx} {σ : St} {H : Hp} {Q : VK} {pos p : Pos} {e : Expr} {es : List Expr} {x : Str} {j : Nat} {ps : List Str} {sp : Sp}
/-- cls(..), cls a local name that holds the class -/
theorem w_makeL (cx : CxI P w K mg base k VL AL GL E X) {C : Addr} (hv : SlotIs x (.ref C) VL σ) {z : Str} (d : Cl P w K mg base C z j ps sp) (hj : Nat.ble (j + 1) k = true)
    (h : Wa X (e :: es) σ H fun vs H1 => ∀ y dx, H1 y = none → H1 dx = none → dx ≠ y → sp (.ref y :: vs) (upd (upd H1 dx (.own y)) y (.ins C dx [])) (MkQ Q y) (fun c d H' => E c d σ H'))
    (he : starEach (e :: es) X.env = (false, eval e X.env) :: starEach es X.env := by kernel_rfl) (hpl : (backTo pos (starEach es X.env)).any (·.1) = false := by kernel_rfl) : We X (.Call (.Name x p) (e :: es) [] pos) σ H Q := by
  obtain ⟨i, hN, hσ, hvis, hd, hcd⟩ := cx.var hv
  obtain ⟨f, fd, F, b, mk, hm⟩ := d
  have r := cx.rg' (Nat.le_of_ble_eq_true hj)
  have cx' := cx
  obtain ⟨e1, e2, e3, e4, e5, _⟩ := cx
  subst e1; subst e2; subst e3; subst e4; subst e5
  intro pins s I
  refine wpAny_Call_Name_kw (thn ((pe_var (pos := p) hN hvis hd hcd).run pins s σ H (fun v H1 => v = .ref C ∧ H1 = H) I ⟨.ref C, hσ, rfl, rfl⟩) fun u s0 ⟨v, H0, I0, r0, ev, eh⟩ => ?_)
  subst ev
  subst eh
  cases r0
  refine PySem.W.callWith_K (h₀ := X.base) I0.ok.mod.kin mk.kp (thn (h pos pins s0 I0) fun us s1 ⟨vs, H1, I1, rr, q⟩ => ⟨I1.kIn, ?_⟩) he hpl
  have q1 := q (s1.heap.objs.size + 1) s1.heap.objs.size (I1.hok.fresh (Nat.le_succ _)) (I1.hok.fresh (Nat.le_refl _)) (Nat.ne_of_lt (Nat.lt_succ_self _))
  have I2 := Inv.made (C := C) I1
  have rel : Vals (V.ref (s1.heap.objs.size + 1) :: vs) (Value.ref (s1.heap.objs.size + 1) :: us) := .cons rfl rr
  refine wpAny_call (make_map (f := f) I1.kIn mk.makes mk.init (beq_iff_eq.mp mk.fn) (codeAny_mono (F.go (A := X.A.under (.builtin "type.__call__" ⟨.ref C :: us, []⟩)) (E' := X.xe) (us := Value.ref (s1.heap.objs.size + 1) :: us) ?_ (r.make C us []) I2 ?_ rel q1 (cx'.thru I2)) fun r s' hq => ?_))
  · have z := (I2.env0.make C us []).frames
    exact z
  · have z := b _ (Value.ref (s1.heap.objs.size + 1) :: us) I2.kIn (by rw [List.append_nil, ← rel.length]; exact F.len _ _ _ _ q1)
    rw [List.append_nil] at z
    exact z
  · match r, hq with
    | .error e, hq => exact hq
    | .ok (.ret u), hq =>
      obtain ⟨v, H', I3, rv, ev, q3⟩ := hq
      subst ev
      exact ⟨rv, ⟨V.ref (s1.heap.objs.size + 1), H', I3, rfl, q3⟩⟩
/-- a classmethod of the class at C -/
def Cm (P : Program) (w : World) (K : PySem.W.Frag) (mg : Str → Option Value) (base : Heap) (C : Addr) (x : Str) (j : Nat) (ps : List Str) (sp : Sp) : Prop :=
  ∃ p f fd mc, Fk P w K mg base j f fd ps sp ∧ Binds K fd ps [] ∧ ClX.CRead K C mc ∧ ClX.CMet K C mc x p f
/-- C.m(e, ..), C a class, m a classmethod -/
theorem w_cmeth (cx : CxI P w K mg base k VL AL GL E X) {C : Addr} {o : Expr} {m : Str} {apos : Pos} {pl : Sem Bool} (d : Cm P w K mg base C m j ps sp) (hj : Nat.ble j k = true)
    (h : We X o σ H fun x H1 => x = .ref C ∧ Wa X (e :: es) σ H1 fun vs H2 => sp (.ref C :: vs) H2 Q (fun c d H' => E c d σ H'))
    (hst : starEach (e :: es) X.env = (false, eval e X.env) :: starEach es X.env := by kernel_rfl) (hpl : (backTo pos (starEach es X.env)).any (·.1) = false := by kernel_rfl)
    (ht : eval (.Call (.Attribute o m apos) (e :: es) [] pos) X.env = (do
      let ov ← eval o X.env
      standAt apos.atName
      let (f, first) ← holding [ov] (getMethod ov m pl)
      callWith pos f first (backTo pos (starEach (e :: es) X.env)) (backToKw pos (keywordEach [] X.env))) := by with_unfolding_all rfl) : We X (.Call (.Attribute o m apos) (e :: es) [] pos) σ H Q := by
  obtain ⟨q, f, fd, mc, F, b, rd, cm⟩ := d
  have r := cx.rg' (Nat.le_of_ble_eq_true hj)
  have cx' := cx
  obtain ⟨e1, e2, e3, e4, e5, _⟩ := cx
  subst e1; subst e2; subst e3; subst e4; subst e5
  intro pins s I
  refine PySem.W.methodCall_KW (pl := pl) (thn (h pins s I) fun u s1 ⟨x, H1, I1, rx, ex, q⟩ => ?_) ht
  subst ex
  cases (show u = Value.ref C from rx)
  refine ClX.getmethcm_ok I1 rd cm fun s2 I2 => ?_
  refine ClX.callwith_cm I2 (ClX.base_none I1 (Nat.le_refl _)) cm.fi (thn (q pos _ s2 I2) fun us s3 ⟨vs, H2, I3, rv, q2⟩ => ⟨⟨ClX.pin_at I3, I3.kIn⟩, ?_⟩) hst hpl
  have rel : Vals (V.ref C :: vs) (Value.ref C :: us) := .cons rfl rv
  have hl : (Value.ref C :: us).length = ps.length := by rw [← rel.length]; exact F.len _ _ _ _ q2
  have z : wpAny (model X.prog X.w) X.A (PySem.call (.ref s1.heap.objs.size) us) (EP X ((s1.heap.objs.size, PySem.W.methodObj (.ref f) (.ref C)) :: pins) σ Q) X.xe s3 := by
    refine wpAny_call (PySem.W.method_call (ClX.pin_at I3) (codeAny_mono (F.go (frm_ I3) r I3 (args := ⟨.ref C :: us, []⟩) (us := .ref C :: us) ?_ rel q2 (cx'.thru I3)) fun rz s' hq => ?_))
    · have z := b s3 (Value.ref C :: us) I3.kIn (by rw [List.append_nil]; exact hl)
      rw [List.append_nil] at z
      exact z
    · match rz, hq with
      | .error e, hq => exact hq
      | .ok (.ret u), hq => exact hq
  exact thn z fun _ _ y => ClX.unpinE y
/-- text.split(sep) -/
theorem w_split (cx : CxI P w K mg base k VL AL GL E X) {o : Expr} {apos : Pos} (h : We X o σ H fun x H1 => ∃ a : Str, x = .str a ∧ We X e σ H1 fun y H2 => ∃ (b : Str) (R : Hp → Prop) (M : List (Addr × (HO → Prop))) (L : List (Addr × Obj)), y = .str b ∧ (b.length == 0) = false ∧ a.length + 2 ≤ sizeLine ∧ Kn R M L H2 ∧
      ∀ p H3, Kn R ((p, Is (.lst ((Txt.split a b).map V.str))) :: M) L H3 → Q (.ref p) H3)
    (hbase : attributeBase o "split" X.env (eval o X.env) = eval o X.env := by kernel_rfl)
    (hfew : ((backTo pos (starEach [e] X.env)).all (fun x => !x.1) && (backToKw pos (keywordEach [] X.env)).all (fun x => x.1.isSome)
      && decide ([e].length + ([] : List Keyword).length + (if ([] : List Keyword).isEmpty then 0 else 1) < 30)) = true := by kernel_rfl)
    (hline : (apos.endLine == pos.line) = true := by kernel_rfl) (hs : starEach [e] X.env = (false, eval e X.env) :: starEach [] X.env := by kernel_rfl) (hplain : (backTo pos (starEach [] X.env)).any (·.1) = false := by kernel_rfl) :
    We X (.Call (.Attribute o "split" apos) [e] [] pos) σ H Q := by
  refine ofPE (pe_bm PySem.F.plainAttrs_str PySem.F.slot_str_split PySem.F.type_str_split mt_split peU (pa_cons peU pa_nil hs) hbase hfew hline hs hplain) ?_
  refine fun pins s I => thn (h pins s I) fun v s1 ⟨x, H1, I1, r1, a, ex, q⟩ => ⟨x, H1, I1, r1, by rw [ex]; rfl, ?_⟩
  refine fun pins s I => thn (q pins s I) fun v s1 ⟨y, H2, I2, r2, b, R, M, L, ey, c1, c2, kn, z⟩ => ⟨y, H2, I2, r2, a, b, ex, by rw [ey], c1, c2, fun p hp => z p _ (kn.new hp rfl)⟩
/-! ### lists -/
variable {R B : Hp → Prop} {M M' : List (Addr × (HO → Prop))} {L : List (Addr × Obj)} {a b : Addr} {xs ys : List V} {A : HO → Prop}
theorem o_cat (kn : Kn R M L H) (h1 : Has a (Is (.lst xs)) M) (h2 : Has b (Is (.lst ys)) M) (hl : xs.length + ys.length ≤ 1000000) (h : ∀ p H', Kn R ((p, Is (.lst (xs ++ ys))) :: M) L H' → Q (.ref p) H') : Wop X (binaryOp .Add) (.ref a) (.ref b) H Q :=
  ofOp op_cat ⟨a, b, xs, ys, rfl, rfl, kn.is h1, kn.is h2, Nat.le_trans hl (by decide), fun p hp => h p _ (kn.new hp rfl)⟩
theorem Kn.only (kn : Kn R M L H) (h : Has a A M) : Kn R [(a, A)] L H := kn.perm (fun q hq => by
  have e : q = (a, A) := by simpa using hq
  rw [e]; exact h.mem) fun _ => by simp
theorem Kn.none (kn : Kn R M L H) : Kn R [] L H := kn.perm (fun q hq => by cases hq) fun _ => List.nodup_nil
theorem o_neL0 (cx : CxI P w K mg base k VL AL GL E X) (kn : Kn R M L H) (h1 : Has a (Is (.lst [])) M) (h2 : Has b (Is (.lst [])) M) (h : Q (.bl false) H) : Wop X (compareOp .NotEq) (.ref a) (.ref b) H Q :=
  o_neD cx (d_lst kn h1 .nil) (d_lst kn h2 .nil) (by kernel_rfl) (by kernel_rfl) rfl rfl fun c hc => by
    have z : c = true := hc.mpr rfl
    rw [z]; exact h
theorem o_neB {x y : Bool} (h : Q (.bl (!decide (x = y))) H) : Wop X (compareOp .NotEq) (.bl x) (.bl y) H Q := ofOp op_ne ⟨rfl, by rw [show decide (V.bl x = V.bl y) = decide (x = y) from by simp]; exact h⟩
theorem o_eqB {x y : Bool} (h : Q (.bl (decide (x = y))) H) : Wop X (compareOp .Eq) (.bl x) (.bl y) H Q := ofOp op_eq ⟨rfl, by rw [show decide (V.bl x = V.bl y) = decide (x = y) from by simp]; exact h⟩
end
/-! ### which kind of goal stands -/
section
variable {X : Cx} {σ : St} {H : Hp} {Q : VK} {e : Expr} {x y v : V} {f : Value → Value → Sem Value} {g : Value} {xs : List V} {at_ : Str} {es : List Expr} {D : Ends} {st : List Stmt}
theorem ck_e (h : We X e σ H Q) : We X e σ H Q := h
theorem ck_a {Q : List V → Hp → Prop} (h : Wa X es σ H Q) : Wa X es σ H Q := h
theorem ck_s (h : Wss X st D σ H) : Wss X st D σ H := h
theorem ck_i {c : Bool} {A B : Prop} (h : if c = true then A else B) : if c = true then A else B := h
theorem ck_st {x : Str} {v : V} {N : List (Option Str)} {σ : St} {A : St → Prop} (h : ∃ σ', SetAt x v N σ σ' ∧ A σ') : ∃ σ', SetAt x v N σ σ' ∧ A σ' := h
theorem ck_nm {n : Str} {p : Pos} (h : We X (.Name n p) σ H Q) : We X (.Name n p) σ H Q := h
theorem ck_call {f : Expr} {as : List Expr} {ks : List Keyword} {p : Pos} (h : We X (.Call f as ks p) σ H Q) : We X (.Call f as ks p) σ H Q := h
theorem ck_ix {a b : Expr} {p : Pos} (h : We X (.Subscript a b p) σ H Q) : We X (.Subscript a b p) σ H Q := h
theorem ck_cmp {a : Expr} {os : List CmpOp} {bs : List Expr} {p : Pos} (h : We X (.Compare a os bs p) σ H Q) : We X (.Compare a os bs p) σ H Q := h
theorem ck_atr {a : Expr} {f : Str} {p : Pos} (h : We X (.Attribute a f p) σ H Q) : We X (.Attribute a f p) σ H Q := h
theorem ck_asgn {t : List Expr} {p : Pos} (h : Wss X (.Assign t e p :: st) D σ H) : Wss X (.Assign t e p :: st) D σ H := h
theorem ck_xpr {p : Pos} (h : Wss X (.Expr e p :: st) D σ H) : Wss X (.Expr e p :: st) D σ H := h
theorem ck_tc {a : Expr} {os : List CmpOp} {bs : List Expr} {p : Pos} {Q : Bool → Hp → Prop} (h : Wt X (.Compare a os bs p) σ H Q) : Wt X (.Compare a os bs p) σ H Q := h
theorem ck_gn {n : Str} {p : Pos} {Q : St → Hp → Prop} (h : Wg X (.Name n p) v σ H Q) : Wg X (.Name n p) v σ H Q := h
theorem ck_gx {a b : Expr} {p : Pos} {Q : St → Hp → Prop} (h : Wg X (.Subscript a b p) v σ H Q) : Wg X (.Subscript a b p) v σ H Q := h
theorem ck_o (h : Wop X f x y H Q) : Wop X f x y H Q := h
theorem ck_c (h : Wcall X g xs H Q) : Wcall X g xs H Q := h
theorem ck_x (h : Wix X x y H Q) : Wix X x y H Q := h
theorem ck_at (h : Wat X x at_ H Q) : Wat X x at_ H Q := h
theorem ck_t {Q : Bool → Hp → Prop} (h : Wt X e σ H Q) : Wt X e σ H Q := h
theorem ck_w {Q : Bool → Hp → Prop} (h : Ww X e σ H Q) : Ww X e σ H Q := h
theorem ck_p {Q : Hp → Prop} (h : Wset X x y v H Q) : Wset X x y v H Q := h
theorem ck_f (h : Wfm X x H Q) : Wfm X x H Q := h
theorem ck_j {acc : Str} {Q : Str → Hp → Prop} (h : Wj X es acc σ H Q) : Wj X es acc σ H Q := h
theorem ck_g {Q : St → Hp → Prop} (h : Wg X e v σ H Q) : Wg X e v σ H Q := h
end
end U

/-! U6: from the law's promise to the row. -/
namespace U
open PySem PySem.Spec L2
open PySem.W (findIn)
open PyProof.Rows hiding St
theorem rg_caller {k : Nat} (h : Room k callerA) : RmG k callerA := ⟨h, rfl⟩
section
variable {P : Program} {w : World} {K : PySem.W.Frag} {mg mb : Str → Option Value} {k : Nat} {fa a : Addr} {fd : FuncData} {x : Str} {sp : Sp} {t : Shared} {vs : List Value} {ns : List Int}
/-- the law's def is run on the script, all else untracked -/
theorem law_go (inK : K.In t.heap) (glob : t.heap.Ns mainGlobals mg) (bns : t.heap.Ns builtinsNs mb) (bval : ∀ y : Str, y ≠ "__name__" → mb y = bootBuiltins y) (lim : t.heap.NoLimit) (gens : t.gens = #[]) (obj : t.heap.get? a = some { cls := .type "list", data := .seq vs.toArray })
    (iz : IntsAre vs ns) (len : ns.length ≤ sizeLine) (room : Room k callerA) (F : ∀ base : Heap, K.In base → base.Ns mainGlobals mg → Fk P w K mg base k fa fd [x] sp) (bind : ∀ (s : Shared) (u : Value), BindsTo s fd ⟨[u], []⟩ [(x, u)])
    (law : ∀ H : Hp, SqL K H a (ns.map V.int) → sp [.ref a] H (fun v _ => v = .bl true) fun _ _ _ => False) :
    codeAny (model P w) callerA (.call (.ref fa) ⟨[.ref a], []⟩) (fun r s' => r = .ok (.ret (.bool true)) ∧ OldK t.heap s'.heap ∧ s'.os = t.os ∧ AllBare s'.gens) t := by
  let O : Obj := { cls := .type "list", data := .seq vs.toArray }
  let H : Hp := fun b => if b = a ∧ K.lookup a = none then some (.frz O (.lst (ns.map V.int))) else none
  have only : ∀ b u, H b = some u → b = a ∧ K.lookup a = none ∧ u = .frz O (.lst (ns.map V.int)) := by
    intro b u e
    by_cases c : b = a ∧ K.lookup a = none
    · have e' : some (HO.frz O (.lst (ns.map V.int))) = some u := (if_pos c).symm.trans e
      exact ⟨c.1, c.2, (Option.some.inj e').symm⟩
    · have e' : (none : Option HO) = some u := (if_neg c).symm.trans e
      cases e'
  have rel := vals_ints iz
  have lv := iz.length
  have held : HOk P w H t.heap := by
    intro b u e
    obtain ⟨rfl, _, rfl⟩ := only b u e
    exact ⟨obj, by rw [List.length_map]; exact len, vs, _, rel, obj⟩
  have seq : SqL K H a (ns.map V.int) := by
    cases q : K.lookup a with
    | none => exact .inl (.inr ⟨O, if_pos ⟨rfl, q⟩⟩)
    | some o =>
      have o1 := inK a o q
      rw [obj] at o1
      cases o1
      exact .inr ⟨O, vs.toArray, _, q, rfl, rfl, rfl, by rw [List.size_toArray, lv]; exact len, by simpa using rel⟩
  have un : ∀ b, (b = a → K.lookup a ≠ none) → H b = none := fun b c => if_neg fun z => c z.1 z.2
  have dict : ∀ {b : Addr} {m : Str → Option Value}, t.heap.Ns b m → (hidT t.heap H).Ns b m := by
    rintro b m ⟨o, es, ep, e, d, r⟩
    refine ⟨o, es, ep, hidT_get e (if_neg fun z => ?_), d, r⟩
    rw [z.1, obj] at e
    cases e
    cases d
  have kb : K.In (hidT t.heap H) := fun b o e => hidT_get (inK b o e) (un b fun z => by rw [← z, e]; exact fun y => nomatch y)
  obtain ⟨mc, lim1, lim2⟩ := lim
  have env : Env0 P w K mg (hidT t.heap H) callerA [] t H :=
    ⟨rfl, ⟨kb, dict glob, ⟨mb, dict bns, bval⟩, ⟨mc, dict lim1, lim2⟩⟩, fun b o e => of_hidT e, Nat.le_of_eq (hidT_size _ _), trivial, fun b z => (nomatch (show b ∈ ([] : List Addr) from z)), held, .of_eq gens⟩
  have go := (F _ kb (dict glob)).run callerA [] t H ⟨[.ref a], []⟩ [.ref a] [.ref a] _ _ (rg_caller room) env (bind t (.ref a)) (.cons rfl .nil) (law H seq)
  refine codeAny_mono go fun r t' q => ?_
  match r, q with
  | .error e, q => exact (noE (E' := fun _ _ => False) q).elim
  | .ok .next, q => exact q.elim
  | .ok .brk, q => exact q.elim
  | .ok .cont, q => exact q.elim
  | .ok (.ret u), q =>
    obtain ⟨v, H', eos, bare, u1, ok', rv, ev⟩ := q
    have ev' : v = .bl true := ev
    subst ev'
    cases (show u = Value.bool true from rv)
    refine ⟨rfl, OldK.of_keep fun b o e => ?_, eos, bare⟩
    cases z : H b with
    | none => exact u1.keep b o e z (fun y => nomatch (show b ∈ ([] : List Addr) from y)) (fun y => nomatch y)
    | some y =>
      obtain ⟨rfl, _, rfl⟩ := only b y z
      obtain ⟨e2, _⟩ := ok' b _ (u1.frzs b _ _ z)
      rw [obj] at e
      cases e
      exact e2
end
theorem walk_G {l : PySem.W.OpenLaw} {k : Nat} {q : Program} {loose : List Str} {XP : (Str → Option Value) → Heap → Prop} {YP : World → Heap → Prop} {d : DefRec} {K : Params → PySem.W.Frag} {sp : World → Sp} {x : Str} (hm : l.most = some 63) (hdf : d.params.defaults = []) (room : Room k callerA)
    (hY : ∀ (w : World) (h : Heap), YP w h → (K w.params).In h)
    (F : ∀ (w : World) (mg : Str → Option Value) (fa : Addr) (h : Heap), (K w.params).In h → h.Ns mainGlobals mg → mg d.name = some (.ref fa) →
      ∃ fd : FuncData, (∀ (s : Shared) (u : Value), BindsTo s fd ⟨[u], []⟩ [(x, u)]) ∧ ∀ base : Heap, (K w.params).In base → base.Ns mainGlobals mg → Fk l.prog w (K w.params) mg base k fa fd [x] (sp w))
    (law : ∀ (w : World) (H : Hp) (a : Addr) (ns : List Int), ns.length ≤ 63 → SqL (K w.params) H a (ns.map V.int) → sp w [.ref a] H (fun v _ => v = .bl true) fun _ _ _ => False) :
    PySem.W.WalkO q loose XP YP l.row.toRowW d [] (fun f vs => PySem.call f vs) := by
  refine Att.attach_call hm hdf fun w _ t mg mb fa o _ _ _ a vs ns G Y _ _ _ nm obj iz len gens => ?_
  obtain ⟨fd, bind, F⟩ := F w mg fa _ (hY w _ Y) G.T.g nm
  exact law_go (hY w _ Y) G.T.g G.T.b G.T.builtins G.T.nolimit gens obj iz (Nat.le_trans len (by decide)) room F bind fun H hs => law w H a ns len hs
/-- a name that the module does not give -/
def absB (K : PySem.W.Frag) (x : Str) : Bool := match PySem.W.nsIn K mainGlobals x with
  | some none => true
  | _ => false
theorem bl_of {K : PySem.W.Frag} {h : Heap} {mg : Str → Option Value} (X : K.In h) (G : h.Ns mainGlobals mg) (z : blts.all (absB K) = true) : ∀ x ∈ blts, mg x = none := by
  intro x hx
  have q := List.all_eq_true.mp z x hx
  unfold absB at q
  cases e : PySem.W.nsIn K mainGlobals x with
  | none => rw [e] at q; cases q
  | some o =>
    cases o with
    | none => exact PySem.W.mg_none_of X G e
    | some v => rw [e] at q; cases q
theorem sg_no {K : PySem.W.Frag} {d : Addr} {e1 e2 : DictEntry} {n : Nat} (lk : K.lookup d = some ⟨.type "dict", none, .dict #[e1, e2] n, #[]⟩) (h1 : ∃ t, e1.key = .str "fixed" t) (h2 : ∃ t, e2.key = .str "free" t) : ∀ z : Str, ¬ (z = "fixed" ∨ z = "free") → PySem.W.nsIn K d z = some none := by
  intro z hz
  obtain ⟨t1, k1⟩ := h1
  obtain ⟨t2, k2⟩ := h2
  have n1 : ("fixed" : Str) ≠ z := fun e => hz (.inl e.symm)
  have n2 : ("free" : Str) ≠ z := fun e => hz (.inr e.symm)
  have i1 : e1.key.isStr z = false := by rw [k1, PySem.W.isStr_of]; simp [Value.isStrOf, n1]
  have i2 : e2.key.isStr z = false := by rw [k2, PySem.W.isStr_of]; simp [Value.isStrOf, n2]
  unfold PySem.W.nsIn
  rw [lk]
  have f : (#[e1, e2] : Array DictEntry).toList.find? (fun e => e.key.isStr z) = none := by simp [i1, i2]
  show (match (#[e1, e2] : Array DictEntry).toList.find? (fun e => e.key.isStr z) with | some e => some (some e.val) | none => if (#[e1, e2] : Array DictEntry).toList.any (·.refKey) then none else some none) = some none
  rw [f]
  have r1 : e1.refKey = false := by unfold DictEntry.refKey; rw [k1]
  have r2 : e2.refKey = false := by unfold DictEntry.refKey; rw [k2]
  simp [r1, r2]
theorem kit_self {K : PySem.W.Frag} {t : Value} : PySem.W.kitOne K t t = some true := by
  unfold PySem.W.kitOne
  rw [if_pos (by simp)]
theorem kit_own {K : PySem.W.Frag} {t : Value} {C : Addr} {r : Bool} (c : Cls K C) (ty : PySem.W.typeIn K (.ref C) = some (.type "type")) (h : PySem.W.subIn K t (.ref C) = some r) (ne : (t == Value.ref C) = false) : PySem.W.kitOne K t (.ref C) = some r := by
  have hc : (PySem.W.clsIn K C).isSome = true := by
    obtain ⟨cd, hc, _⟩ := PySem.W.any_some c.hd
    rw [hc]
    rfl
  unfold PySem.W.kitOne PySem.W.kitCls
  rw [ne, if_neg Bool.false_ne_true]
  show (if ((PySem.W.clsIn K C).isSome && PySem.W.typeIn K (.ref C) == some (.type "type")) = true then PySem.W.subIn K t (.ref C) else none) = some r
  rw [hc, ty]
  exact h
end U

/-! U7: own exceptions: their __init__, raise. -/
namespace U
open PySem PySem.Spec L2
open PySem.W (findIn)
open PyProof.Rows hiding St
section
variable {P : Program} {w : World} {K : PySem.W.Frag} {mg : Str → Option Value} {base : Heap} {k : Nat} {VL AL : List (Option Str)} {GL : List Str} {E : WX} {X : Cx} {σ : St} {H : Hp} {Q : VK} {pos p p1 p2 : Pos} {e o : Expr} {es : List Expr} {x f : Str} {j : Nat} {ps : List Str} {sp : Sp}
/-- a class (at B) whose __init__ is ValueError's -/
structure VeB (K : PySem.W.Frag) (B : Addr) : Prop where
  rd : PySem.W.readsIn K B (.type "type") = true
  ga : PySem.W.specialIn K (.ref B) "__getattribute__" = some (some (.builtin "type.__getattribute__"))
  ini : PySem.W.findCls K (.ref B) (.type "type") "__init__" = some (.val (.builtin "ValueError.__init__"))
/-- B.__init__(self, ..), B such a class -/
theorem w_reinit (cx : CxI P w K mg base k VL AL GL E X) {B : Addr} {pl : Sem Bool} (hg : In x GL) (hm : mg x = some (.ref B)) (b : VeB K B)
    (h : Wa X (e :: es) σ H fun vs H1 => ∃ (a C : Addr) (ws : List V), vs = .ref a :: ws ∧ ws.length ≤ 1000 ∧ OexC K C ∧ H1 a = some (exo a C none) ∧ Q .non H1)
    (hc : eval (.Call (.Attribute (.Name x p1) "__init__" p2) (e :: es) [] pos) X.env = (do
      let ov ← eval (.Name x p1) X.env
      standAt p2.atName
      let (f, first) ← holding [ov] (getMethod ov "__init__" pl)
      callWith pos f first (backTo pos (starEach (e :: es) X.env)) (backToKw pos (keywordEach [] X.env))) := by with_unfolding_all rfl)
    (he : starEach (e :: es) X.env = (false, eval e X.env) :: starEach es X.env := by kernel_rfl) (hpl : (backTo pos (starEach es X.env)).any (·.1) = false := by kernel_rfl) : We X (.Call (.Attribute (.Name x p1) "__init__" p2) (e :: es) [] pos) σ H Q := by
  have g := cx.gl hg
  obtain ⟨e1, e2, e3, e4, e5, _⟩ := cx
  subst e1; subst e2; subst e3; subst e4; subst e5
  intro pins s I
  refine PySem.W.methodCall_KW (ld_glob I g.1 hm ?_ g.2) hc
  refine PySem.W.method_cls I.kIn b.ga (PySem.W.cls_value I.kIn b.rd b.ini (by kernel_rfl) ?_)
  show wpAny _ _ (callWith pos (Value.builtin "ValueError.__init__") [] (backTo pos (starEach (e :: es) X.env)) []) _ _ _
  refine callWith_method1 (thn (h pos pins _ (I.tok _)) fun us s1 ⟨vs, H1, I1, r1, a, C, ws, ev, hl, T, ea, q⟩ => ?_) he hpl
  subst ev
  cases r1 with
  | cons ra rw' =>
    cases ra
    exact oinit_ok T I1 ea (by rw [← Paired.length rw', PySem.sizeLine_eq]; omega) fun s' J => ⟨.non, H1, J, rfl, q⟩
/-- self.f = v, the exception's first field -/
theorem s_exf (cx : CxI P w K mg base k VL AL GL E X) {nx : St → Hp → Prop} {rt : VK} {bk ct : St → Hp → Prop} {rest : List Stmt} {p' : Pos}
    (h : We X e σ H fun y H1 => We X o σ H1 fun z H2 => ∃ a C : Addr, z = .ref a ∧ OexC K C ∧ findIn K (.ref C) f = some none ∧ H2 a = some (exo a C none) ∧ ∀ dx, H2 dx = none → dx ≠ a → Wss X rest ⟨nx, rt, bk, ct⟩ σ (upd (upd H2 dx (exd dx [(f, y)])) a (exo a C (some dx))))
    (hs : swapsWith e (some (.Attribute o f p')) pos.line X.env = pure false := by kernel_rfl) : Wss X (.Assign [.Attribute o f p'] e pos :: rest) ⟨nx, rt, bk, ct⟩ σ H := by
  have e3 := cx.eK
  subst e3
  refine s_cons (ofPS (ps_ost peU peU hs) ?_)
  refine fun pins s I => thn (h pins s I) fun u s1 ⟨y, H1, I1, r1, q⟩ => ⟨y, H1, I1, r1, ?_⟩
  exact fun pins s I => thn (q pins s I) fun u s1 ⟨z, H2, I2, r2, a, C, ez, T, hn, ha, q⟩ => ⟨z, H2, I2, r2, a, C, ez, T, hn, .inl ⟨ha, q⟩⟩
/-- the promise of such an __init__: one field f -/
def spExc (C : Addr) (f : Str) (A : V → Prop) : Sp := fun vs H Q _ => ∃ (a : Addr) (v : V), vs = [.ref a, v] ∧ A v ∧ H a = some (exo a C none) ∧ ∀ dx, H dx = none → dx ≠ a → Q .non (upd (upd H dx (exd dx [(f, v)])) a (exo a C (some dx)))
/-- an own exception class with one field -/
structure ExC (P : Program) (w : World) (K : PySem.W.Frag) (mg : Str → Option Value) (base : Heap) (C : Addr) (x f : Str) (j : Nat) (A : V → Prop) : Prop where
  oex : OexC K C
  mg_ : mg x = some (.ref C)
  ini : ∃ fI fd ps, findIn K (.ref C) "__init__" = some (some (.ref fI)) ∧ PySem.W.typeIn K (.ref fI) = some (.type "function") ∧ Fk P w K mg base j fI fd ps (spExc C f A) ∧ Binds K fd ps []
theorem del_upd {H : Hp} {a dx : Addr} {o o' o2 : HO} (ha : H a = none) (ne : dx ≠ a) : upd (del (upd (upd (upd H a o) dx o') a o2) a) dx o' = upd H dx o' := by
  funext b
  by_cases h1 : b = dx
  · rw [h1, upd_same, upd_same]
  · rw [upd_ne h1, upd_ne h1]
    by_cases h2 : b = a
    · rw [h2, del_same, ha]
    · rw [del_ne h2, upd_ne h2, upd_ne h1, upd_ne h2]
theorem del_upd' {H : Hp} {a dx : Addr} {o o1 o2 o3 : HO} (ha : H a = none) (ne : dx ≠ a) : upd (del (upd (upd (upd H a o) dx o1) a o2) a) dx o3 = upd H dx o3 := by
  funext b
  by_cases h1 : b = dx
  · rw [h1, upd_same, upd_same]
  · rw [upd_ne h1, upd_ne h1]
    by_cases h2 : b = a
    · rw [h2, del_same, ha]
    · rw [del_ne h2, upd_ne h2, upd_ne h1, upd_ne h2]
/-- C(e), an own exception made -/
theorem pmk_ex (cx : CxI P w K mg base k VL AL GL E X) {C : Addr} {A : V → Prop} (hg : In x GL) (d : ExC P w K mg base C x f j A) (hj : Nat.ble (j + 1) k = true)
    (he : starEach [e] X.env = (false, eval e X.env) :: starEach [] X.env) (hpl : (backTo pos (starEach [] X.env)).any (·.1) = false) :
    PMk X (.Call (.Name x p) [e] [] pos) (fun σ H Q => We X e σ H fun v H1 => A v ∧ ∀ dd, H1 dd = none → Q (.ref C) (some dd) (upd H1 dd (.xd [(f, v)]))) := by
  have g := cx.gl hg
  have room := cx.rg' (Nat.le_of_ble_eq_true hj)
  obtain ⟨T, mgx, fI, fd, ps, iC, tI, F1, hb⟩ := d
  obtain ⟨e1, e2, e3, e4, e5, _⟩ := cx
  subst e1; subst e2; subst e3; subst e4; subst e5
  intro pins s σ H Q I h
  obtain ⟨nm, qn, N, bs, bm, sn, sub, ab, col, dd, k0, k1, k2, k3, k5, hC, hbm⟩ := T.cls
  refine wpAny_Call_Name_kw (ld_glob I g.1 mgx ?_ g.2)
  refine PySem.W.callWith_K (h₀ := X.base) I.ok.mod.kin T.kC (thn ((pa_cons peU pa_nil he).run pos pins s σ H (fun vs H1 => ∃ v, vs = [v] ∧ A v ∧ ∀ dd, H1 dd = none → Q (.ref C) (some dd) (upd H1 dd (.xd [(f, v)]))) I ?_) fun us s1 ⟨vs, H1, I1, r1, v, ev, av, q1⟩ => ⟨I1.kIn, ?_⟩) he hpl
  · exact fun pins s I => thn (h pins s I) fun u s1 ⟨v, H1, I1, r, av, q⟩ => ⟨v, H1, I1, r, v, rfl, av, q⟩
  subst ev
  obtain ⟨hp, gg, dr, tk, os⟩ := s1
  have fresh : H1 (hp.objs.size + 1) = none := I1.hok.fresh (Nat.le_succ _)
  have grow : ∀ b o, hp.get? b = some o → ((hp.push (PySem.W.kdv_tup us)).push (PySem.HandSPX.excO C hp.objs.size)).get? b = some o := fun b o q => Heap.get?_push_of_some _ (Heap.get?_push_of_some _ q)
  have at1 : ((hp.push (PySem.W.kdv_tup us)).push (PySem.HandSPX.excO C hp.objs.size)).get? (hp.objs.size + 1) = some (PySem.HandSPX.excO C hp.objs.size) := by heap_get
  have I2 : Inv X pins σ (upd H1 (hp.objs.size + 1) (exo (hp.objs.size + 1) C none)) ⟨(hp.push (PySem.W.kdv_tup us)).push (PySem.HandSPX.excO C hp.objs.size), gg, dr, tk, os⟩ :=
    I1.laid (t' := tk) (a := hp.objs.size + 1) (o := exo (hp.objs.size + 1) C none) (h' := (hp.push (PySem.W.kdv_tup us)).push (PySem.HandSPX.excO C hp.objs.size)) grow (Nat.le_succ _) (exo_ok at1)
  let Q2 : VK := fun v' H2 => v' = .non ∧ ∃ (dx : Addr) (fs : List (Str × V)), H2 (hp.objs.size + 1) = some (exo (hp.objs.size + 1) C (some dx)) ∧ H2 dx = some (exd dx fs) ∧ H1 dx = none ∧ Q (.ref C) (some dx) (upd (del H2 (hp.objs.size + 1)) dx (.xd fs))
  have want : spExc C f A [.ref (hp.objs.size + 1), v] (upd H1 (hp.objs.size + 1) (exo (hp.objs.size + 1) C none)) Q2 E0 := by
    refine ⟨_, v, rfl, av, upd_same, fun dx hd ne => ⟨rfl, dx, [(f, v)], upd_same, by rw [upd_ne ne, upd_same], ?_, ?_⟩⟩
    · rw [upd_ne ne] at hd
      exact hd
    · rw [del_upd' fresh ne]
      rw [upd_ne ne] at hd
      exact q1 dx hd
  have rel : Vals [V.ref (hp.objs.size + 1), v] (Value.ref (hp.objs.size + 1) :: us) := .cons rfl r1
  have hl : (Value.ref (hp.objs.size + 1) :: us).length = ps.length := by rw [← rel.length]; exact F1.len _ _ _ _ want
  have bind := hb ⟨(hp.push (PySem.W.kdv_tup us)).push (PySem.HandSPX.excO C hp.objs.size), gg, dr, tk, os⟩ (Value.ref (hp.objs.size + 1) :: us) I2.kIn (by rw [List.append_nil]; exact hl)
  rw [List.append_nil] at bind
  have ul : us.length ≤ sizeLine := by
    rw [← Paired.length r1, PySem.sizeLine_eq]
    simp
  refine wpAny_call (PySem.HandSPX.call_own PySem.F.excBase_ValueError (fun Y => PySem.HandSPX.refsVE_contains Y bm hbm) (I1.kIn _ _ hC) (PySem.W.looks_findIn I1.kIn iC) (fun self => PySem.W.bind_fn I1.kIn self tI) ul
    (codeAny_mono (F1.run _ X.stack _ _ ⟨Value.ref (hp.objs.size + 1) :: us, []⟩ (Value.ref (hp.objs.size + 1) :: us) _ Q2 E0 (room.make C us []) (I2.env0.make C us []) bind rel want) fun r t q => ?_))
  match r, q with
  | .error e, q => exact noE q
  | .ok .next, q => exact q.elim
  | .ok .brk, q => exact q.elim
  | .ok .cont, q => exact q.elim
  | .ok (.ret u), q =>
    obtain ⟨v', H2, os2, bare2, un2, hok2, rv, ev, dx, fs, ea, ed, hd1, q2⟩ := q
    subst ev
    obtain ⟨h2, g2, d2, t2, os'⟩ := t
    exact ⟨rv, mk_end (raises_own T.exC T.tyC) I1 (Nat.le_succ _) grow un2 hok2 os2 bare2 ea ed hd1 q2⟩
theorem s_raise (cx : CxI P w K mg base k VL AL GL E X) {C : Addr} {A : V → Prop} {nx : St → Hp → Prop} {rt : VK} {bk ct : St → Hp → Prop} {rest : List Stmt} {pos' : Pos} (hg : In x GL) (d : ExC P w K mg base C x f j A) (hj : Nat.ble (j + 1) k = true)
    (h : We X e σ H fun v H1 => A v ∧ ∀ dd, H1 dd = none → E (.ref C) (some dd) σ (upd H1 dd (.xd [(f, v)])))
    (he : starEach [e] X.env = (false, eval e X.env) :: starEach [] X.env := by kernel_rfl) (hpl : (backTo pos (starEach [] X.env)).any (·.1) = false := by kernel_rfl) :
    Wss X (.Raise (some (.Call (.Name x p) [e] [] pos)) none pos' :: rest) ⟨nx, rt, bk, ct⟩ σ H :=
  s_cons (ofPS (ps_raise cx.calm cx.tk (pmk_ex cx hg d hj he hpl)) h)
end
end U

/-! U8: try .. except C as e. -/
namespace U
open PySem PySem.Spec L2
open PySem.W (findIn)
open PyProof.Rows hiding St
/-- the context of an except suite: the exception (at a, of the class cls, its dict at d) is held -/
structure CxS (P : Program) (w : World) (K : PySem.W.Frag) (mg : Str → Option Value) (base : Heap) (VL AL : List (Option Str)) (GL : List Str) (a : Addr) (cls : Value) (d : Option Addr) (X : Cx) : Prop where
  eP : X.prog = P
  ew : X.w = w
  eK : X.K = K
  em : X.mg = mg
  eb : X.base = base
  nd : X.N.Nodup
  ok : okAll X.N X.env.scope.names VL AL GL = true
  fn : ∀ x, X.fn x = true ∨ some x ∉ AL ∨ X.env.scope.names.lookup x = some .local
  bl : ∀ x ∈ blts, mg x = none
  su : ∃ (X0 : Cx) (oe : Obj) (pn : List (Addr × Obj)), X = X0.suite a ((a, oe) :: pn) ∧ Zc cls d oe ∧ ∃ vs, oe.data = .fields vs
section
variable {P : Program} {w : World} {K : PySem.W.Frag} {mg : Str → Option Value} {base : Heap} {k : Nat} {VL AL : List (Option Str)} {GL : List Str} {E : WX} {X : Cx} {σ : St} {H : Hp}
/-- try: body except C as n: suite -/
theorem s_try {N : List Str} {ns : List (Str × NameKind)} (cx : CxI P w K mg base k VL AL GL E X) (cn : CxN N ns X) (ct : CxT X) {x n : Str} {C : Addr} {body suite rest : List Stmt} {b₀ : Stmt} {np pos pos' : Pos} {nx : St → Hp → Prop} {rt : VK} {bk ct' : St → Hp → Prop} (i : Nat) (hi : N[i]? = some n) (hl : ns.lookup n = some .local) (hg : In x GL) (hm : mg x = some (.ref C))
    (h : ∀ X', CxI P w K mg base k VL AL GL (wAs K (.ref C) i (fun a cls d D σ H => ∀ X', CxS P w K mg base VL AL GL a cls d X' → Wss X' (b₀ :: suite) D σ H) E ⟨fun σ' H' => Wss X rest ⟨nx, rt, bk, ct'⟩ σ' H', rt, bk, ct'⟩) X' → Wss X' body ⟨fun σ' H' => Wss X rest ⟨nx, rt, bk, ct'⟩ σ' H', rt, bk, ct'⟩ σ H) :
    Wss X (.Try body [.ExceptHandler (some (.Name x np)) (some n) (b₀ :: suite) pos'] [] [] pos :: rest) ⟨nx, rt, bk, ct'⟩ σ H := by
  have g := cx.gl hg
  have kn : X.env.kindOf n = some .local := by
    have q := cn.ns
    show X.env.scope.names.lookup n = some .local
    rw [q]
    exact hl
  have nm : Names X x (.ref C) := ⟨g.1, g.2, .inl (by rw [cx.em]; exact hm)⟩
  have e3 := cx.eK
  refine s_cons (ofPS (ps_try_as (Wout := E) (tb := fun W D σ H => ∀ X', CxI P w K mg base k VL AL GL W X' → Wss X' body D σ H) (ts := fun a cls d D σ H => ∀ X', CxS P w K mg base VL AL GL a cls d X' → Wss X' (b₀ :: suite) D σ H) ct.stk ct.frm cx.nd (by rw [cn.n]; exact hi) kn nm cx.tk ?_ ?_) ?_)
  · intro W pn xe tk po
    exact ⟨fun pins s σ H D I q => q (X.tr pn xe) ⟨cx.eP, cx.ew, cx.eK, cx.em, cx.eb, cx.nd, cx.ok, cx.fn, cx.room, cx.gd, cx.calm, po, tk, cx.bl⟩ pins s I⟩
  · intro a oe cls d pn z fv
    exact ⟨fun pins s σ H D I q => q (X.suite a ((a, oe) :: pn)) ⟨cx.eP, cx.ew, cx.eK, cx.em, cx.eb, cx.nd, cx.ok, cx.fn, cx.bl, X, oe, pn, rfl, z, fv⟩ pins s I⟩
  · rw [e3]
    exact h
end
end U

/-! U9: inside an except suite; what is raised, by Kn. -/
namespace PySem.W
open PySem PySem.Spec PySem.Calls PyProof.Rows
section
variable {prog : Program} {w : World} {A : Around} {E : Value → Shared → Prop} {s : Shared} {K : Frag} {x D : Addr} {ox : Obj}
theorem u9_findObj {C : Addr} {od : Option Obj} {name : Str} {a g : Value} (hc : (clsIn K C).isSome = true) (ha : findIn K (.ref C) name = some (some a)) (hg : specialIn K a "__get__" = some (some g)) (ht : takesIn K a = some true) : findObj K C od name = some (.bind g a) := by
  obtain ⟨cd, hc⟩ := Option.isSome_iff_exists.mp hc
  unfold findObj
  rw [hc, Option.bind_some, ha, Option.bind_some]
  simp [hg, ht]
theorem u9_class {od : Option Obj} {Q : Option Value → Shared → Prop} (hga : findIn K (.ref D) "__getattribute__" = some (some (.builtin "BaseException.__getattribute__"))) (hgt : findIn K (.ref D) "__getattr__" = some none) (hsub : subIn K (.ref D) (.type "BaseException") = some true)
    (hdct : hasDictIn K D = true) (ha : findIn K (.ref D) "__class__" = some (some (.builtin "object.__class__")))
    (hn : specialIn K (.builtin "object.__class__") "__get__" = some (some (.builtin "getset_descriptor.__get__"))) (htk : takesIn K (.builtin "object.__class__") = some true) (hm : mroIn K D (.type "object") = some true)
    (X : K.In s.heap) (I : InstAt s.heap x ox D od) (h : Q (some (.ref D)) { s with toks := s.toks + 1 }) : wpAny (model prog w) A (getAttr? (.ref x) "__class__") Q E s := by
  have hf : findObj K D od "__class__" = some (.bind (.builtin "getset_descriptor.__get__") (.builtin "object.__class__")) := u9_findObj (by obtain ⟨cd, hc, _⟩ := any_some hdct; rw [hc]; rfl) ha hn htk
  obtain ⟨hp, g, d, t, os⟩ := s
  have L0 := I.type (M := model prog w)
  have L1 := looks_findIn (M := model prog w) X hga
  have L2 := looks_findIn (M := model prog w) X hgt
  have L3 := looks_find (M := model prog w) X I hf
  have sub : Looks (model prog w) hp (isInstance (.ref x) (.type "BaseException")) true := L0.andThen (looks_subIn X hsub)
  have hx0 : (false && onTheHeap (Value.builtin "BaseException.__getattribute__")) = false := rfl
  have hx2 : (Value.builtin "BaseException.__getattribute__" == Value.builtin "object.__getattribute__") = false := by decide +kernel
  have hx1 : (onTheHeap (Value.ref D) && Value.builtin "BaseException.__getattribute__" == Value.builtin "object.__getattribute__") = false := by rw [hx2]; rfl
  unfold getAttr? getAttrBy? getAttrBy
  refine wpAny_bind (wpAny_mkText (wpAny_bind (wpAny_attempt (wpAny_holding (wpAny_bind (L0.at (wpAny_bind (L1.at ?_))))))))
  show wpAny _ _ (if (onTheHeap (Value.ref D) && Value.builtin "BaseException.__getattribute__" == Value.builtin "object.__getattribute__") = true then _ else _) _ _ _
  rw [hx1, if_neg Bool.false_ne_true]
  unfold getAttrByItsOwn hookBefore
  refine wpAny_bind ?_
  rw [if_pos (show onTheHeap (Value.ref D) = true from rfl)]
  refine L2.at ?_
  refine wpAny_bind (wpAny_attempt (wpAny_holding ?_))
  unfold callGetattribute
  rw [hx0, if_neg Bool.false_ne_true]
  unfold boundAndCalled
  rw [PySem.F.excAttr_ValueError.ga.bind (.ref x)]
  refine wpAny_bind (wpAny_pure ?_)
  show wpAny _ _ (call (.builtin "BaseException.__getattribute__") [.ref x, .str "__class__" t]) _ _ _
  refine wpAny_call (codeAny_call_builtin PySem.F.excAttr_ValueError.ga.plain PySem.F.entry_bexc_ga ?_)
  refine @check_slot (model prog w) _ _ ⟨hp, g, d, t + 1, os⟩ "BaseException.__getattribute__" "BaseException" "__getattribute__" (.ref x) [.str "__class__" t] [] _ (by decide +kernel) (by decide +kernel) sub (PySem.F.args_bexc_ga (.ref x) (.str "__class__" t)) ?_
  unfold Builtin.«object.__getattribute__»
  refine wpAny_bind (wpAny_of_eq (a := ((Value.ref x : Value), [Value.str "__class__" t])) (by first | rfl | (simp only [slotArgs]; rfl)) ?_)
  refine wpAny_bind (wpAny_pure (wpAny_bind (L0.at (wpAny_bind (L3.at ?_)))))
  show wpAny _ _ (holding [Value.builtin "object.__class__"] (call (.builtin "getset_descriptor.__get__") [.builtin "object.__class__", .ref x, .ref D]) >>= ret) _ _ _
  refine wpAny_bind (wpAny_holding (wpAny_call (class_get (s := ⟨hp, g, d, t + 1, os⟩) (ox := ox) (od := od) X I hm ?_)))
  refine wpAny_pure ?_
  show wpAny _ _ (handedOut (.ref D)) _ _ _
  rw [handedOut_of (v := .ref D) rfl]
  first
    | exact wpAny_pure (wpAny_pure h)
    | exact wpAny_pure h
    | exact wpAny_pure (wpAny_bind (wpAny_pure (wpAny_pure h)))
theorem u9_kitx {od : Option Obj} (hga : findIn K (.ref D) "__getattribute__" = some (some (.builtin "BaseException.__getattribute__"))) (hgt : findIn K (.ref D) "__getattr__" = some none) (hsub : subIn K (.ref D) (.type "BaseException") = some true) (hdct : hasDictIn K D = true) (ha : findIn K (.ref D) "__class__" = some (some (.builtin "object.__class__")))
    (hn : specialIn K (.builtin "object.__class__") "__get__" = some (some (.builtin "getset_descriptor.__get__"))) (htk : takesIn K (.builtin "object.__class__") = some true) (hm : mroIn K D (.type "object") = some true) :
    KitX K (.ref x) (.ref D) (fun h => InstAt h x ox D od) where
  ty := fun _ _ _ I => I.type
  it := fun _ _ X _ => by
    obtain ⟨cdD, hcD, _⟩ := any_some hdct
    unfold clsIn at hcD
    split at hcD
    · rename_i c' d' cd' sl' ho
      intro A' Q' E' s' k q
      unfold isType loadHead
      exact wpAny_bind (wpAny_loadPart (k _ _ (X _ _ ho)) (wpAny_pure q))
    · cases hcD
  ne := fun h tp dd its n sl X htp => by
    obtain ⟨cdD, hcD, _⟩ := any_some hdct
    refine Bool.eq_false_iff.mpr fun q => ?_
    have e : D = tp := Value.ref.inj (beq_iff_eq.mp q)
    subst e
    unfold clsIn at hcD
    split at hcD
    · rename_i c' d' cd' sl' ho
      have z := (X _ _ ho).symm.trans htp
      cases z
    · cases hcD
  ca := fun X I k => u9_class hga hgt hsub hdct ha hn htk hm X I k
end
end PySem.W
namespace U
open PySem PySem.Spec L2
open PySem.W (findIn)
open PyProof.Rows hiding St
/-- the exception's dict, if it has one, is tracked -/
def XdOk (d : Option Addr) (H : Hp) : Prop := d = none ∨ ∃ dd fs, d = some dd ∧ H dd = some (.xd fs)
section
variable {P : Program} {w : World} {K : PySem.W.Frag} {mg : Str → Option Value} {base : Heap} {VL AL : List (Option Str)} {GL : List Str} {X : Cx} {σ : St} {H : Hp} {Q : VK} {pos p : Pos} {e : Expr} {es : List Expr} {x f : Str} {a D : Addr} {d : Option Addr} {cls : Value}
theorem CxS.gl (cx : CxS P w K mg base VL AL GL a cls d X) {x : Str} (h : In x GL) : Gl X x ∧ (x == ("__debug__" : Str)) = false := by
  have q := cx.ok
  unfold okAll at q
  simp only [Bool.and_eq_true] at q
  have z := List.all_eq_true.mp q.2 x h.mem
  unfold glB at z
  simp only [Bool.and_eq_true, beq_iff_eq, Bool.not_eq_true'] at z
  exact z
theorem CxS.bltn (cx : CxS P w K mg base VL AL GL a cls d X) {x : Str} (h : x ∈ blts) : X.mg x = none := by
  rw [cx.em]; exact cx.bl x h
theorem sv_var (cx : CxS P w K mg base VL AL GL a cls d X) {x : Str} {v : V} (hs : SlotIs x v VL σ) (h : Q v H) : We X (.Name x pos) σ H Q := by
  obtain ⟨i, a, b⟩ := hs.ix
  have q := cx.ok
  unfold okAll at q
  simp only [Bool.and_eq_true] at q
  obtain ⟨c, d⟩ := slOk_of q.1.1 a
  unfold visC at d
  simp only [Bool.and_eq_true, Bool.not_eq_true'] at d
  exact ofPE (pe_var c (visB_of d.1.1) d.1.2 d.2) ⟨v, b, h⟩
theorem sv_glob (cx : CxS P w K mg base VL AL GL a cls d X) {x : Str} {v : V} {u : Value} (hg : In x GL) (hm : mg x = some u) (r : RelV v u) (h : Q v H) :
    We X (.Name x pos) σ H Q := ofPE (pe_glob (cx.gl hg).1 (by rw [cx.em]; exact hm) r (cx.gl hg).2) h
variable {nx : St → Hp → Prop} {rt : VK} {bk ct : St → Hp → Prop} {rest : List Stmt}
theorem sv_set (cx : CxS P w K mg base VL AL GL a cls d X) {x : Str} {e : Expr} {pos' : Pos} (h : We X e σ H fun v H1 => ∃ σ', SetAt x v AL σ σ' ∧ Wss X rest ⟨nx, rt, bk, ct⟩ σ' H1)
    (hs : swapsWith e (some (.Name x pos')) pos.line X.env = pure false := by kernel_rfl) : Wss X (.Assign [.Name x pos'] e pos :: rest) ⟨nx, rt, bk, ct⟩ σ H := by
  refine s_cons fun pins s I => ?_
  refine wpAny_Assign_Name (thn (h pins s I) fun v s1 ⟨y, H1, I1, r1, σ', q0, q1⟩ => ?_) hs
  obtain ⟨i, a, b⟩ := q0.ix
  have q := cx.ok
  unfold okAll at q
  simp only [Bool.and_eq_true] at q
  obtain ⟨c, d⟩ := slOk_of q.1.2 a
  have z := asgB_of d
  subst b
  refine store_ok I1 cx.nd c z r1 (fun s2 I2 => ⟨_, H1, I2, q1⟩) ?_
  rcases cx.fn x with f | f | f
  · exact .inl f
  · exact absurd (List.mem_of_getElem? a) f
  · exact .inr f
theorem sv_isinstance (cx : CxS P w K mg base VL AL GL a cls d X) (hg : In ("isinstance" : Str) GL) (h : Wa X (e :: es) σ H fun vs H1 => Wcall X (.builtin "isinstance") vs H1 Q) (he : starEach (e :: es) X.env = (false, eval e X.env) :: starEach es X.env := by kernel_rfl) (hpl : (backTo pos (starEach es X.env)).any (·.1) = false := by kernel_rfl) : We X (.Call (.Name "isinstance" p) (e :: es) [] pos) σ H Q :=
  ofPE (pe_callB callU (cx.gl hg).1 (cx.bltn (by decide +kernel)) (by rfl) paU (by decide +kernel) (cx.gl hg).2 he hpl) h
/-- the exception that is held, as isinstance asks it -/
theorem CxS.inst (cx : CxS P w K mg base VL AL GL a (.ref D) d X) {pins : List (Addr × Obj)} {s : Shared} (I : Inv X pins σ H s) (xd : XdOk d H) : ∃ oe od, PySem.W.InstAt s.heap a oe D od := by
  obtain ⟨X0, oe, pn, e, hz, vs, hv⟩ := cx.su
  subst e
  obtain ⟨hget, _⟩ := I.pin (a, oe) (List.mem_append.mpr (.inl List.mem_cons_self))
  rcases xd with e | ⟨dd, fs, e, ea⟩
  · subst e
    refine ⟨oe, none, ?_⟩
    obtain ⟨oc, od, oda, osl⟩ := oe
    obtain ⟨h1, h2⟩ := hz
    dsimp only at h1 h2 hv
    subst h1 h2 hv
    exact ⟨hget, rfl, rfl, trivial⟩
  · subst e
    have hx : ObjOk X0.prog X0.w H s.heap dd (.xd fs) := I.hok dd _ ea
    obtain ⟨mA, hns, hr⟩ := hx
    obtain ⟨od, ho, hl⟩ := lookIn_ns hns
    exact ⟨oe, some od, hget, hz.1, by unfold PySem.W.notCls; rw [hv] <;> rfl, by rw [hz.2]; exact ho⟩
theorem ce_is (cx : CxS P w K mg base VL AL GL a (.ref D) d X) (C : ExcC K D) (xd : XdOk d H) {C2 : Addr} {b : Bool} (hk : PySem.W.kitOne K (.ref D) (.ref C2) = some b) (h : Q (.bl b) H) : Wcall X (.builtin "isinstance") [.ref a, .ref C2] H Q := by
  intro pins s σ us I r
  have e3 := cx.eK
  subst e3
  obtain ⟨u1, u2, rfl, r1, r2⟩ := vals2 r
  cases (show u1 = Value.ref a from r1)
  cases (show u2 = Value.ref C2 from r2)
  obtain ⟨oe, od, J⟩ := cx.inst I xd
  exact PySem.W.kia_one (PySem.W.u9_kitx C.hg C.hk C.hs C.hd C.ha C.hn C.ht C.hm) I.kIn J hk (fun z => nomatch z) fun tk => ⟨.bl b, H, I.tok tk, rfl, h⟩
theorem ce_isT (cx : CxS P w K mg base VL AL GL a (.ref D) d X) (C : ExcC K D) (xd : XdOk d H) {tp : Addr} {cs : List Addr} {b : Bool} (ht : H tp = some (.tup (cs.map V.ref))) (hk : PySem.W.kitAny K (.ref D) (cs.map Value.ref) = some b) (h : Q (.bl b) H) : Wcall X (.builtin "isinstance") [.ref a, .ref tp] H Q := by
  intro pins s σ us I r
  have e3 := cx.eK
  subst e3
  obtain ⟨u1, u2, rfl, r1, r2⟩ := vals2 r
  cases (show u1 = Value.ref a from r1)
  cases (show u2 = Value.ref tp from r2)
  obtain ⟨oe, od, J⟩ := cx.inst I xd
  obtain ⟨_, its, rv, o, h1, h2, n, h3⟩ := (show ObjOk X.prog X.w H s.heap tp (.tup (cs.map V.ref)) from I.hok tp _ ht)
  have e3 := refs_at rv
  subst e3
  obtain ⟨oc, od, dt, sl⟩ := o
  simp only at h2 h3
  subst h2 h3
  exact PySem.W.kia_tup (PySem.W.u9_kitx C.hg C.hk C.hs C.hd C.ha C.hn C.ht C.hm) I.kIn J h1 hk (fun z => nomatch z) fun tk => ⟨.bl b, H, I.tok tk, rfl, h⟩
theorem sv_fld (cx : CxS P w K mg base VL AL GL a (.ref D) d X) (T : XfC K D) (hno : findIn K (.ref D) f = some none)
    (h : We X e σ H fun x H1 => x = .ref a ∧ ∃ (dd : Addr) (fs : List (Str × V)) (v : V), d = some dd ∧ H1 dd = some (.xd fs) ∧ fs.lookup f = some v ∧ Q v H1) (hb : attributeBase e f X.env (eval e X.env) = eval e X.env := by kernel_rfl) : We X (.Attribute e f pos) σ H Q := by
  have e3 := cx.eK
  subst e3
  obtain ⟨X0, oe, pn, e', hz, hf⟩ := cx.su
  subst e'
  refine ofPE (pe_xf T hno hz hf peU hb) ?_
  exact fun pins s I => thn (h pins s I) fun u s1 ⟨x, H1, I1, r, e1, dd, fs, v, e2, q⟩ => ⟨x, H1, I1, r, e1, rfl, dd, fs, v, e2, q⟩
/-! the facts of an own exception class for a suite -/
structure ExF (K : PySem.W.Frag) (D : Addr) : Prop where
  c : ExcC K D
  x : XfC K D
theorem kitAny_f {K : PySem.W.Frag} {t : Value} : ∀ {cs : List Addr}, (∀ c ∈ cs, PySem.W.kitOne K t (.ref c) = some false) → PySem.W.kitAny K t (cs.map Value.ref) = some false
  | [], _ => rfl
  | c :: cs, h => kitAny_cons (h c List.mem_cons_self) (fun _ => kitAny_f fun c hc => h c (List.mem_cons_of_mem _ hc)) (fun z => nomatch z)
/-- an own class's base: kitOne of a subclass -/
theorem kit_sub {K : PySem.W.Frag} {D C : Addr} {r : Bool} (hc : (PySem.W.clsIn K C).isSome = true) (ty : PySem.W.typeIn K (.ref C) = some (.type "type")) (h : PySem.W.subIn K (.ref D) (.ref C) = some r) (hr : D = C → r = true) : PySem.W.kitOne K (.ref D) (.ref C) = some r := by
  by_cases e : D = C
  · subst e
    rw [hr rfl]
    exact kit_self
  · have ne : (Value.ref D == Value.ref C) = false := by
      rw [beq_eq_false_iff_ne]
      exact fun z => e (Value.ref.inj z)
    unfold PySem.W.kitOne PySem.W.kitCls
    rw [ne, if_neg Bool.false_ne_true]
    show (if ((PySem.W.clsIn K C).isSome && PySem.W.typeIn K (.ref C) == some (.type "type")) = true then PySem.W.subIn K (.ref D) (.ref C) else none) = some r
    rw [hc, ty]
    exact h
end
/-! ### what is raised -/
/-- an exception of the class D with the field f = v leaves -/
def Ra (E : XK) (D : Addr) (f : Str) (v : V) (R : Hp → Prop) (N : List (Addr × (HO → Prop))) (L : List (Addr × Obj)) : Prop := ∀ dd H', Kn (Cj (Ex dd (.xd [(f, v)])) R) N L H' → E (.ref D) (some dd) H'
theorem kn_xd {R : Hp → Prop} {N : List (Addr × (HO → Prop))} {L : List (Addr × Obj)} {H : Hp} {dd : Addr} {fs : List (Str × V)} (kn : Kn R N L H) (hd : H dd = none) : Kn (Cj (Ex dd (.xd fs)) R) N L (upd H dd (.xd fs)) :=
  kn.newX hd (fun n => by rcases n with ⟨_, e⟩ | ⟨_, e⟩ <;> cases e) fun _ _ e => by cases e
section
variable {P : Program} {w : World} {K : PySem.W.Frag} {mg : Str → Option Value} {base : Heap} {k : Nat} {VL AL : List (Option Str)} {GL : List Str} {E : WX} {X : Cx} {σ : St} {H : Hp} {Q : VK} {pos p : Pos} {e : Expr} {x f : Str} {j : Nat}
/-- raise C(e), by Kn -/
theorem s_raiseK (cx : CxI P w K mg base k VL AL GL E X) {C : Addr} {A : V → Prop} {nx : St → Hp → Prop} {rt : VK} {bk ct : St → Hp → Prop} {rest : List Stmt} {pos' : Pos} (d : ExC P w K mg base C x f j A) (hg : In x GL) (hj : Nat.ble (j + 1) k = true)
    (h : We X e σ H fun v H1 => A v ∧ ∃ R N L, Kn R N L H1 ∧ ∀ dd H2, Kn (Cj (Ex dd (.xd [(f, v)])) R) N L H2 → E (.ref C) (some dd) σ H2)
    (he : starEach [e] X.env = (false, eval e X.env) :: starEach [] X.env := by kernel_rfl) (hpl : (backTo pos (starEach [] X.env)).any (·.1) = false := by kernel_rfl) :
    Wss X (.Raise (some (.Call (.Name x p) [e] [] pos)) none pos' :: rest) ⟨nx, rt, bk, ct⟩ σ H :=
  s_raise cx hg d hj (fun pins s I => thn (h pins s I) fun u s1 ⟨v, H1, I1, r, av, R, N, L, kn, q⟩ => ⟨v, H1, I1, r, av, fun dd hd => q dd _ (kn_xd kn hd)⟩) he hpl
end
end U

/-! U10: promises by positions, star parameters, star arguments. -/
namespace U
open PySem PySem.Spec L2
open PySem.W (findIn)
open PyProof.Rows hiding St
/-- what a def promises of a call by positions alone -/
def FkR (P : Program) (w : World) (K : PySem.W.Frag) (mg : Str → Option Value) (base : Heap) (j : Nat) (f : Addr) (sp : Sp) : Prop :=
  ∀ (A : Around) (outer : List Env) (s : Shared) (H : Hp) (us : List Value) (vs : List V) (Q : VK) (E : XK), RmG j A → Env0 P w K mg base A outer s H → Vals vs us → sp vs H Q E →
    codeAny (model P w) A (.call (.ref f) ⟨us, []⟩) (CR (L2.CX P w) outer P w H s Q E) s
section
variable {P : Program} {w : World} {K : PySem.W.Frag} {mg : Str → Option Value} {base : Heap}
theorem FkR.mono {i j : Nat} {f : Addr} {sp : Sp} (F : FkR P w K mg base i f sp) (h : i ≤ j) : FkR P w K mg base j f sp := fun A o s H us vs Q E r => F A o s H us vs Q E (r.mono h)
theorem Fk.toR {j : Nat} {f : Addr} {fd : FuncData} {ps : List Str} {sp : Sp} {ds : List Value} {dvs : List V} (F : Fk P w K mg base j f fd ps sp) (b : Binds K fd ps ds) (rd : Vals dvs ds) : FkR P w K mg base j f (fun vs => sp (vs ++ dvs)) := by
  intro A outer s H us vs Q E r e0 rr h
  have rel := rr.append rd
  refine F.run A outer s H ⟨us, []⟩ (us ++ ds) (vs ++ dvs) Q E r e0 (b s us (e0.mod.kin.keeps fun b o e => (e0.bs b o e).1) ?_) rel h
  have z := F.len _ _ _ _ h
  rw [← z, rel.length, List.length_append]
theorem Fk.toR0 {j : Nat} {f : Addr} {fd : FuncData} {ps : List Str} {sp : Sp} (F : Fk P w K mg base j f fd ps sp) (b : Binds K fd ps []) : FkR P w K mg base j f sp := by
  have z := F.toR b (dvs := []) .nil
  simpa using z
/-- def f(a, .., *v): what is left over is a new tuple -/
theorem fn_okS {x qual : Str} {st : Stmt} {f : Addr} {fd : FuncData} {N ps : List Str} {pv : Str} {k : Nat} {sp : List V → List V → Hp → VK → XK → Prop} {ns : List (Str × NameKind)} {VL : List (Option Str)} {GL : List Str} (F : Fun K x qual st f fd) (S : FnScope N (ps ++ [pv]) (defScope st)) (hns : (defScope st).names = ns)
    (ok : okAll N ns VL VL GL = true) (hbl : ∀ x ∈ blts, mg x = none)
    (hb : ∀ us rest : List Value, us.length = ps.length → bindArgs fd ⟨us ++ rest, []⟩ = (newTuple rest >>= fun t => pure (ps.zip us ++ [(pv, t)])))
    (h : ∀ (X : Cx) (H : Hp) (ws rest : List V) (p : Addr) (Q : VK) (E : XK), CxI P w K mg base k VL VL GL (fun c d _ H' => E c d H') X → CxN N ns X → CxT X → ws.length = ps.length → sp ws rest H Q E → H p = none → Wss X (defBody st) ⟨fun _ H' => Q .non H', Q, fun _ _ => False, fun _ _ => False⟩ (start N (ws ++ [V.ref p])) (upd H p (.tup rest))) :
    FkR P w K mg base (k + 1) f (fun vs H Q E => ∃ ws rest, vs = ws ++ rest ∧ ws.length = ps.length ∧ rest.length ≤ sizeLine ∧ sp ws rest H Q E) := by
  intro A outer s H us vs Q E hr e0 r hsp
  obtain ⟨oc, od, kV, doc, pm, an, cdv, ct, osl, efd, look, hcode⟩ := F.ex
  subst efd
  obtain ⟨ws, rest, ev, hl, hz, hq⟩ := hsp
  subst ev
  obtain ⟨u1, u2, eu, r1, r2⟩ := StX.vals_split r
  subst eu
  have hn : H s.heap.objs.size = Option.none := e0.hok.fresh (Nat.le_refl _)
  have hl1 : u1.length = ps.length := by rw [← r1.length]; exact hl
  have hl2 : u2.length ≤ sizeLine := by rw [← r2.length]; exact hz
  have KX : K.In s.heap := e0.mod.kin.keeps fun b o e => (e0.bs b o e).1
  refine codeAny_call_function hr.rm.depth (KX _ _ look) rfl S.co S.gen rfl (PySem.W.codeRec_of KX hcode) ?_
  rw [hb u1 u2 hl1]
  refine wpAny_bind (wpAny_newTuple (wpAny_pure ?_) hl2)
  have new : ObjOk P w (upd H s.heap.objs.size (.tup rest)) (s.heap.push ({ cls := .type "tuple", data := .seq u2.toArray } : Obj)) s.heap.objs.size (.tup rest) := ⟨hz, u2, r2, ⟨_, Heap.get?_push_size _ rfl, rfl, _, rfl⟩⟩
  have un := StX.un_laid (fs := frs outer) (s := s) (o := ({ cls := .type "tuple", data := .seq u2.toArray } : Obj)) (u := .tup rest) hn
  have e2 := StX.env0_laid e0 new
  have up : ∀ (e : Value) (s' : Shared), L2.CX P w outer (upd H s.heap.objs.size (.tup rest)) { s with heap := s.heap.push ({ cls := .type "tuple", data := .seq u2.toArray } : Obj) } E e s' → L2.CX P w outer H s E e s' := fun e s' c => StX.cxUp outer s H { s with heap := s.heap.push ({ cls := .type "tuple", data := .seq u2.toArray } : Obj) } _ E e s' un (fun b o q => Heap.get?_push_of_some _ q) rfl c
  have rr : Vals (ws ++ [V.ref s.heap.objs.size]) (u1 ++ [Value.ref s.heap.objs.size]) := r1.append (.cons rfl .nil)
  have zz : (ps ++ [pv]).zip (u1 ++ [Value.ref s.heap.objs.size]) = ps.zip u1 ++ [(pv, Value.ref s.heap.objs.size)] := by rw [List.zip_append hl1.symm]; rfl
  rw [← zz]
  generalize hs2 : ({ s with heap := s.heap.push ({ cls := .type "tuple", data := .seq u2.toArray } : Obj) } : Shared) = s2 at e2 up
  have ho : s2.os = s.os := by rw [← hs2]
  have un' : Un (frs outer) [] H (upd H s.heap.objs.size (.tup rest)) s.heap s2.heap := by rw [← hs2]; exact un
  have lim : s2.heap.NoLimit := e0.mod.nolimit.keeps fun b o e => (e2.bs b o e).1
  have hkind : ∀ y ∈ (ps ++ [pv]).zip (u1 ++ [Value.ref s.heap.objs.size]), (defScope st).names.lookup y.1 = some .local ∨ ((defScope st).names.lookup y.1 = some .cell ∧ ((cellsFrom (s2.heap.objs.size + 1) (defScope st).names []).lookup y.1).isSome = true) := fun y hy => by
    rcases S.par y.1 (List.of_mem_zip hy).1 with q | q
    · exact .inl q
    · exact .inr ⟨q, PySem.W.cellsFrom_some _ _ _ (.inl q)⟩
  refine wpAny_newFunctionEnv_cells (s := s2) S.kind hkind fun env he s1 x => ?_
  subst he
  refine ⟨lim.keeps x.toInCall.keep, codeAny_func ?_⟩
  let X := cxOf (L2.CX P w) P w K mg base N qual (defScope st) f cdv A outer s2 (upd H s.heap.objs.size (.tup rest)) E
  have I : Inv X [] (start N (ws ++ [V.ref s.heap.objs.size])) (upd H s.heap.objs.size (.tup rest)) s1 := inv_start S hr.rm.hd e2 (by rw [List.length_append, List.length_append, hl]; rfl) rr x
  have cx : CxI P w K mg base k VL VL GL (fun c d _ H' => E c d H') X := ⟨rfl, rfl, rfl, rfl, rfl, S.nd, by subst hns; exact ok, fun _ => .inl rfl, hr.rm.deeper _, gd_deeper hr.gd, rfl, passes_of rfl, takes_of rfl rfl rfl rfl, hbl⟩
  have done : ∀ {σ' : St} {H' : Hp} {v : V} {u : Value} {t' : Shared}, Inv X [] σ' H' t' → RelV v u → Q v H' → CE outer P w H s Q u t' := fun J rv q => ⟨_, _, J.os.trans ho, J.bare, un'.trans J.base, J.hok, rv, q⟩
  refine wpAny_mono (h X H ws rest s.heap.objs.size Q E cx ⟨rfl, hns, S.kind⟩ ⟨rfl, rfl⟩ hl hq hn [] s1 I) (fun fl t' q => ?_) fun e t' z => ?_
  · cases fl with
    | next =>
      obtain ⟨σ', H', J, q⟩ := q
      exact done (v := V.non) (u := Value.none) J rfl q
    | ret u =>
      obtain ⟨v, σ', H', J, rv, q⟩ := q
      exact done J rv q
    | brk =>
      obtain ⟨_, _, _, q⟩ := q
      exact q.elim
    | cont =>
      obtain ⟨_, _, _, q⟩ := q
      exact q.elim
  · exact wpAny_mono z (fun _ s'' z => up e s'' z) fun e' s'' z => up e' s'' z
/-! ### calls of a value -/
def Wcv (X : Cx) (f : Value) (vs : List V) (σ : St) (H : Hp) (Q : VK) : Prop := ∀ (pins : List (Addr × Obj)) (s : Shared) (us : List Value), Inv X pins σ H s → Vals vs us → wpAny (model X.prog X.w) X.A (PySem.call f us) (EP X pins σ Q) X.xe s
variable {k : Nat} {VL AL : List (Option Str)} {GL : List Str} {E : WX} {X : Cx} {σ : St} {H : Hp} {Q : VK} {pos p p' : Pos} {e : Expr} {es : List Expr} {x : Str} {j : Nat} {sp : Sp} {u : Value} {f C : Addr} {vs : List V}
theorem FkR.call {pins : List (Addr × Obj)} {s : Shared} {A : Around} {E : XK} {E' : Value → Shared → Prop} {us : List Value}
    (F : FkR X.prog X.w X.K X.mg X.base j f sp) (hA : A.frames = some X.stack) (hr : RmG j A) (I : Inv X pins σ H s) (r : Vals vs us) (h : sp vs H Q E) (hx : ∀ e s', L2.CX X.prog X.w X.stack H s E e s' → E' e s') :
    codeAny (model X.prog X.w) A (.call (.ref f) ⟨us, []⟩) (fun r s' => match r with | .ok (.ret u) => EP X pins σ Q u s' | .ok _ => False | .error e => E' e s') s := by
  have e := I.env0
  refine codeAny_mono (F A X.stack s H us vs Q E hr ⟨hA, e.mod, e.bs, e.bsz, e.funs, e.frf, e.hok, e.bare⟩ r h) fun r s' hq => ?_
  match r, hq with
  | .error e, hq => exact hx e s' hq
  | .ok (.ret u), hq => exact I.after hq
  | .ok .next, hq => exact hq.elim
  | .ok .brk, hq => exact hq.elim
  | .ok .cont, hq => exact hq.elim
theorem cv_R (cx : CxI P w K mg base k VL AL GL E X) (F : FkR P w K mg base j f sp) (hj : Nat.ble j k = true) (h : sp vs H Q (fun c d H' => E c d σ H')) : Wcv X (.ref f) vs σ H Q := by
  have r := cx.rg' (Nat.le_of_ble_eq_true hj)
  have cx' := cx
  obtain ⟨e1, e2, e3, e4, e5, _⟩ := cx
  subst e1; subst e2; subst e3; subst e4; subst e5
  intro pins s us I rr
  refine wpAny_call (codeAny_mono (F.call (frm_ I) r I rr h (cx'.thru I)) fun r s' hq => ?_)
  match r, hq with
  | .error e, hq => exact hq
  | .ok (.ret u), hq => exact hq
/-- a class with its own __init__, by positions -/
structure ClR (P : Program) (w : World) (K : PySem.W.Frag) (mg : Str → Option Value) (base : Heap) (C : Addr) (j : Nat) (sp : Sp) : Prop where
  ex : ∃ f, FkR P w K mg base j f sp ∧ Mk K C f
theorem cv_C (cx : CxI P w K mg base k VL AL GL E X) (d : ClR P w K mg base C j sp) (hj : Nat.ble (j + 1) k = true)
    (h : ∀ y dx, H y = none → H dx = none → dx ≠ y → sp (.ref y :: vs) (upd (upd H dx (.own y)) y (.ins C dx [])) (MkQ Q y) (fun c d H' => E c d σ H')) : Wcv X (.ref C) vs σ H Q := by
  obtain ⟨f, F, mk⟩ := d.ex
  have r := cx.rg' (Nat.le_of_ble_eq_true hj)
  have cx' := cx
  obtain ⟨e1, e2, e3, e4, e5, _⟩ := cx
  subst e1; subst e2; subst e3; subst e4; subst e5
  intro pins s1 us I1 rr
  have q1 := h (s1.heap.objs.size + 1) s1.heap.objs.size (I1.hok.fresh (Nat.le_succ _)) (I1.hok.fresh (Nat.le_refl _)) (Nat.ne_of_lt (Nat.lt_succ_self _))
  have I2 := Inv.made (C := C) I1
  have rel : Vals (V.ref (s1.heap.objs.size + 1) :: vs) (Value.ref (s1.heap.objs.size + 1) :: us) := .cons rfl rr
  refine wpAny_call (make_map (f := f) I1.kIn mk.makes mk.init (beq_iff_eq.mp mk.fn) (codeAny_mono (F.call (A := X.A.under (.builtin "type.__call__" ⟨.ref C :: us, []⟩)) (E' := X.xe) (us := Value.ref (s1.heap.objs.size + 1) :: us) ?_ (r.make C us []) I2 rel q1 (cx'.thru I2)) fun r s' hq => ?_))
  · exact (I2.env0.make C us []).frames
  · match r, hq with
    | .error e, hq => exact hq
    | .ok (.ret u), hq =>
      obtain ⟨v, H', I3, rv, ev, q3⟩ := hq
      subst ev
      exact ⟨rv, ⟨V.ref (s1.heap.objs.size + 1), H', I3, rfl, q3⟩⟩
/-- an argument that is starred -/
theorem wa_star {Q : List V → Hp → Prop} (cx : CxI P w K mg base k VL AL GL E X) (h : We X e σ H fun x H1 => ∃ p xs, x = V.ref p ∧ (SqT K H1 p xs ∨ SqL K H1 p xs) ∧ Wa X es σ H1 fun ys H2 => Q (xs ++ ys) H2) (hs : starEach (.Starred e p :: es) X.env = (true, eval e X.env) :: starEach es X.env := by kernel_rfl) :
    Wa X (.Starred e p :: es) σ H Q := by
  have e3 := cx.eK
  subst e3
  exact ofPA (StX.pa_star peU paU hs) h
/-! a global name called -/
theorem w_gcall (cx : CxI P w K mg base k VL AL GL E X) (hg : In x GL) (hm : mg x = some u) (kp : PySem.W.keepIn K u = true) (h : Wa X (e :: es) σ H fun vs H1 => Wcv X u vs σ H1 Q) (he : starEach (e :: es) X.env = (false, eval e X.env) :: starEach es X.env := by kernel_rfl)
    (hpl : (backTo pos (starEach es X.env)).any (·.1) = false := by kernel_rfl) : We X (.Call (.Name x p) (e :: es) [] pos) σ H Q := by
  have g := cx.gl hg
  obtain ⟨e1, e2, e3, e4, e5, _⟩ := cx
  subst e1; subst e2; subst e3; subst e4; subst e5
  intro pins s I
  refine wpAny_Call_Name_kw (ld_glob I g.1 hm ?_ g.2)
  exact PySem.W.callWith_K (h₀ := X.base) I.ok.mod.kin kp (thn (h pos pins s I) fun us s1 ⟨vs, H1, I1, rr, q⟩ => ⟨I1.kIn, q pins s1 us I1 rr⟩) he hpl
theorem w_gcallS (cx : CxI P w K mg base k VL AL GL E X) (hg : In x GL) (hm : mg x = some u) (kp : PySem.W.keepIn K u = true) (h : Wa X (e :: es) σ H fun vs H1 => Wcv X u vs σ H1 Q) (he : starEach (e :: es) X.env = (false, eval e X.env) :: starEach es X.env := by kernel_rfl)
    (hst : (backTo pos (starEach es X.env)).any (·.1) = true := by kernel_rfl) : We X (.Call (.Name x p) (e :: es) [] pos) σ H Q := by
  have g := cx.gl hg
  obtain ⟨e1, e2, e3, e4, e5, _⟩ := cx
  subst e1; subst e2; subst e3; subst e4; subst e5
  intro pins s I
  refine wpAny_Call_Name_kw (ld_glob I g.1 hm ?_ g.2)
  exact PySem.W.callWith_S2 (h₀ := X.base) I.ok.mod.kin kp (thn (h pos pins s I) fun us s1 ⟨vs, H1, I1, rr, q⟩ => ⟨I1.kIn, q pins s1 us I1 rr⟩) he hst
theorem w_gcallS1 (cx : CxI P w K mg base k VL AL GL E X) (hg : In x GL) (hm : mg x = some u) (kp : PySem.W.keepIn K u = true) (h : We X e σ H fun y H1 => ∃ a xs, y = V.ref a ∧ (SqT K H1 a xs ∨ SqL K H1 a xs) ∧ Wcv X u xs σ H1 Q)
    (hst : starEach [.Starred e p'] X.env = [(true, eval e X.env)] := by kernel_rfl) : We X (.Call (.Name x p) [.Starred e p'] [] pos) σ H Q := by
  have g := cx.gl hg
  obtain ⟨e1, e2, e3, e4, e5, _⟩ := cx
  subst e1; subst e2; subst e3; subst e4; subst e5
  intro pins s I
  refine wpAny_Call_Name_kw (ld_glob I g.1 hm ?_ g.2)
  refine PySem.W.callWith_S (h₀ := X.base) I.ok.mod.kin kp (thn (h pins s I) fun v s1 ⟨y, H1, I1, ry, a, xs, ey, hxs, q⟩ => ?_) hst
  subst ey
  cases (show v = Value.ref a from ry)
  exact StX.star_any I1 hxs fun us s2 I2 rv => ⟨I2.kIn, q pins s2 us I2 rv⟩
theorem w_gcall0 (cx : CxI P w K mg base k VL AL GL E X) (hg : In x GL) (hm : mg x = some u) (kp : PySem.W.keepIn K u = true) (h : Wcv X u [] σ H Q) : We X (.Call (.Name x p) [] [] pos) σ H Q := by
  have g := cx.gl hg
  obtain ⟨e1, e2, e3, e4, e5, _⟩ := cx
  subst e1; subst e2; subst e3; subst e4; subst e5
  intro pins s I
  refine wpAny_Call_Name_kw (ld_glob I g.1 hm ?_ g.2)
  exact PySem.W.callWith_K0 I.kIn kp (h pins s [] I .nil)
/-! a local name called -/
theorem w_lname (cx : CxI P w K mg base k VL AL GL E X) {v : V} (hv : SlotIs x v VL σ) {pins : List (Addr × Obj)} {s : Shared} (I : Inv X pins σ H s) {Q' : Value → Shared → Prop} {a : Addr} (ev : v = .ref a) (h : ∀ s', Inv X pins σ H s' → Q' (.ref a) s') : wpAny (model X.prog X.w) X.A (eval (.Name x p) X.env) Q' X.xe s := by
  obtain ⟨i, hN, hσ, hvis, hd, hcd⟩ := cx.var hv
  refine thn ((pe_var (pos := p) hN hvis hd hcd).run pins s σ H (fun v H1 => v = .ref a ∧ H1 = H) I ⟨v, hσ, ev, rfl⟩) fun u s0 ⟨v, H0, I0, r0, ev, eh⟩ => ?_
  subst ev
  subst eh
  cases r0
  exact h _ I0
theorem w_lcall (cx : CxI P w K mg base k VL AL GL E X) (hv : SlotIs x (.ref C) VL σ) (kp : PySem.W.keepIn K (.ref C) = true) (h : Wa X (e :: es) σ H fun vs H1 => Wcv X (.ref C) vs σ H1 Q) (he : starEach (e :: es) X.env = (false, eval e X.env) :: starEach es X.env := by kernel_rfl)
    (hpl : (backTo pos (starEach es X.env)).any (·.1) = false := by kernel_rfl) : We X (.Call (.Name x p) (e :: es) [] pos) σ H Q := by
  have cx' := cx
  obtain ⟨e1, e2, e3, e4, e5, _⟩ := cx
  subst e1; subst e2; subst e3; subst e4; subst e5
  intro pins s I
  refine wpAny_Call_Name_kw (w_lname cx' hv I rfl fun s0 I0 => ?_)
  exact PySem.W.callWith_K (h₀ := X.base) I0.ok.mod.kin kp (thn (h pos pins s0 I0) fun us s1 ⟨vs, H1, I1, rr, q⟩ => ⟨I1.kIn, q pins s1 us I1 rr⟩) he hpl
theorem w_lcallS (cx : CxI P w K mg base k VL AL GL E X) (hv : SlotIs x (.ref C) VL σ) (kp : PySem.W.keepIn K (.ref C) = true) (h : Wa X (e :: es) σ H fun vs H1 => Wcv X (.ref C) vs σ H1 Q) (he : starEach (e :: es) X.env = (false, eval e X.env) :: starEach es X.env := by kernel_rfl)
    (hst : (backTo pos (starEach es X.env)).any (·.1) = true := by kernel_rfl) : We X (.Call (.Name x p) (e :: es) [] pos) σ H Q := by
  have cx' := cx
  obtain ⟨e1, e2, e3, e4, e5, _⟩ := cx
  subst e1; subst e2; subst e3; subst e4; subst e5
  intro pins s I
  refine wpAny_Call_Name_kw (w_lname cx' hv I rfl fun s0 I0 => ?_)
  exact PySem.W.callWith_S2 (h₀ := X.base) I0.ok.mod.kin kp (thn (h pos pins s0 I0) fun us s1 ⟨vs, H1, I1, rr, q⟩ => ⟨I1.kIn, q pins s1 us I1 rr⟩) he hst
/-- a def of the module by positions -/
def DfR (P : Program) (w : World) (K : PySem.W.Frag) (mg : Str → Option Value) (base : Heap) (x : Str) (j : Nat) (sp : Sp) : Prop := ∃ f, FkR P w K mg base j f sp ∧ PySem.W.keepIn K (.ref f) = true ∧ mg x = some (.ref f)
theorem w_callR (cx : CxI P w K mg base k VL AL GL E X) (hg : In x GL) (d : DfR P w K mg base x j sp) (hj : Nat.ble j k = true) (h : Wa X (e :: es) σ H fun vs H1 => sp vs H1 Q (fun c d H' => E c d σ H')) (he : starEach (e :: es) X.env = (false, eval e X.env) :: starEach es X.env := by kernel_rfl)
    (hpl : (backTo pos (starEach es X.env)).any (·.1) = false := by kernel_rfl) : We X (.Call (.Name x p) (e :: es) [] pos) σ H Q := by
  obtain ⟨f, F, kp, hm⟩ := d
  exact w_gcall cx hg hm kp (fun pos pins s I => thn (h pos pins s I) fun us s1 ⟨vs, H1, I1, rr, q⟩ => ⟨vs, H1, I1, rr, cv_R cx F hj q⟩) he hpl
theorem w_callRS (cx : CxI P w K mg base k VL AL GL E X) (hg : In x GL) (d : DfR P w K mg base x j sp) (hj : Nat.ble j k = true) (h : Wa X (e :: es) σ H fun vs H1 => sp vs H1 Q (fun c d H' => E c d σ H')) (he : starEach (e :: es) X.env = (false, eval e X.env) :: starEach es X.env := by kernel_rfl)
    (hst : (backTo pos (starEach es X.env)).any (·.1) = true := by kernel_rfl) : We X (.Call (.Name x p) (e :: es) [] pos) σ H Q := by
  obtain ⟨f, F, kp, hm⟩ := d
  exact w_gcallS cx hg hm kp (fun pos pins s I => thn (h pos pins s I) fun us s1 ⟨vs, H1, I1, rr, q⟩ => ⟨vs, H1, I1, rr, cv_R cx F hj q⟩) he hst
end
end U

/-! U11: dicts by Kn; sorted(dict) of any length; enumerate(tuple). -/
namespace U
open PySem PySem.Spec L2
open PySem.W (findIn)
open PyProof.Rows hiding St
/-! ### enumerate(tuple) -/
theorem meets_enumerate_newT {v : Value} {o : Obj} {H : Heap → Prop} (B : Begins v o H) :
    Meets (Builtin.«enumerate.__new__» ⟨[.type "enumerate", v], []⟩) (fun _ R s => H s.heap ∧
      R (.ok (.ret (.ref (s.heap.push o).objs.size))) { s with heap := (s.heap.push o).push { cls := .type "enumerate", data := .fields #[.none, .bool false, .ref s.heap.objs.size, rawInt 0, .none, .none] } }) :=
  .of_wp fun prog w A R s h => by
    obtain ⟨hp, g, d, tk, os⟩ := s; obtain ⟨h1, h⟩ := h
    have hsub := sub_enumerate
    have q1 : ∀ {A' : Around} {E : Value → Shared → Prop} {Q : Value → Shared → Prop}, Q (.ref hp.objs.size) ⟨hp.push o, g, d, tk, os⟩ → wpAny (model prog w) A' (pyIter v) Q E ⟨hp, g, d, tk, os⟩ :=
      fun q => B.iter prog w _ _ ⟨hp, g, d, tk, os⟩ _ h1 q
    wp_walk using q1
    refine wpAny_stack_any fun st => wpAny_pure ?_
    split
    · rename_i c _ _ _ _ _
      cases (c == Value.type "enumerate")
      · wp_walk using q1
        exact ⟨_, rfl, h⟩
      · wp_walk using q1
        exact ⟨_, rfl, h⟩
    · wp_walk using q1
      exact ⟨_, rfl, h⟩
section
variable {prog : Program} {w : World} {A : Around} {E : Value → Shared → Prop} {s : Shared}
theorem call_enumerate_b {v : Value} {o : Obj} {H : Heap → Prop} {Q : Value → Shared → Prop} (B : Begins v o H) (h1 : H s.heap)
    (h : ∀ h', IsEnum h' (s.heap.objs.size + 1) s.heap.objs.size 0 .none → h'.get? s.heap.objs.size = some o → h'.objs.size = s.heap.objs.size + 2 →
      (∀ b o, s.heap.get? b = some o → h'.get? b = some o) → Q (.ref (s.heap.objs.size + 1)) { s with heap := h' }) :
    wpAny (model prog w) A (call (.type "enumerate") [v]) Q E s := by
  refine callType_new F.called_enumerate (by decide) (F.typeCall_enumerate_1 _) (F.newCall_enumerate_1 _) (fun obj => F.args_object_init_2 obj _) F.entry_enumerate_new
    (meets_enumerate_newT B) ⟨h1, ?_⟩
  have hz : (s.heap.push o).objs.size = s.heap.objs.size + 1 := Heap.size_push ..
  show _ ∧ _
  rw [hz]
  have he : IsEnum ((s.heap.push o).push { cls := .type "enumerate", data := .fields #[.none, .bool false, .ref s.heap.objs.size, rawInt 0, .none, .none] }) (s.heap.objs.size + 1) s.heap.objs.size 0 .none := by
    have := Heap.get?_push_size (s.heap.push o) (o := { cls := .type "enumerate", data := .fields #[.none, .bool false, .ref s.heap.objs.size, rawInt 0, .none, .none] }) rfl
    rw [hz] at this; exact this
  refine ⟨⟨_, he, rfl⟩, h _ he (Heap.get?_push_of_some _ (Heap.get?_push_size _ B.free)) (by rw [Heap.size_push, hz]) fun b o x => Heap.get?_push_of_some _ (Heap.get?_push_of_some _ x)⟩
end
/-- the tuple at a as it stands at each turn, each item in a new pair -/
def IteT (K : PySem.W.Frag) (a : Addr) : It :=
  ⟨fun i H => ∃ (xs : List V) (x : V), SqT K H a xs ∧ xs[i]? = some x, fun i H v H' => ∃ T x, v = .ref T ∧ H T = none ∧ H' = upd H T (.tup [.int (i : Nat), x]) ∧ ∀ xs, SqT K H a xs → xs[i]? = some x, fun i H => ∃ xs : List V, SqT K H a xs ∧ xs.length = i⟩
theorem turn_enumT {P : Program} {w : World} {K : PySem.W.Frag} {elts : List Expr} {kk : Nat} {tpos : Pos} (a e it : Addr) :
    Turn P w K (.Tuple elts kk tpos) (IteT K a) [e, it] e (fun i h => (∃ old, IsEnum h e it ((i : Nat) : Int) old) ∧ h.IsTupleIter it a i ∧ e ≠ it ∧ a ≠ it ∧ a ≠ e) where
  mem := by simp
  obj := fun i h st b hb => by
    obtain ⟨⟨old, he⟩, ⟨o, ho, hc, hd⟩, _⟩ := st
    have e' : b = e ∨ b = it := by simpa using hb
    rcases e' with z | z
    · rw [z]; exact ⟨_, he, fun v q => nomatch q⟩
    · rw [z]; exact ⟨o, ho, fun v q => by rw [hd] at q; cases q⟩
  keep := fun i h h' st k => let ⟨⟨old, he⟩, hi, hne⟩ := st; ⟨⟨old, k e (by simp) _ he⟩, hi.at fun o q => k it (by simp) o q, hne⟩
  item := by
    intro X hP hw hK hc i pins s σ H E I hf st hg
    subst hP hw hK
    obtain ⟨⟨old, he⟩, hit, hne, hai, hae⟩ := st
    obtain ⟨xs, x, hq, hx⟩ := hg
    obtain ⟨its, rv, p, hz⟩ := I.tuple hq
    obtain ⟨u, hu, ru⟩ := rv.get hx
    have hel : e < s.heap.objs.size := Heap.lt_size he
    have hil : it < s.heap.objs.size := by obtain ⟨_, q, _⟩ := hit; exact Heap.lt_size q
    have hlen := rv.length
    have hi2 : i < its.toArray.size := by
      have z := (List.getElem?_eq_some_iff.mp hx).1
      simp; omega
    refine wpAny_pyNext_enum_itemD (Draws.tuple (show X.A.in1.handled = none from I.ok.hd hc) it a hai its.toArray) he ⟨hit, p⟩ hi2 hne (by simp [hne, Ne.symm hae]) fun x' h' tk hx' ho hit' hT hsz hk => ?_
    have ex : x' = u := by
      have z : its.toArray[i]? = some x' := hx'
      have z2 : its.toArray[i]? = some u := by simpa using hu
      rw [z2] at z; cases z; rfl
    subst ex
    refine ⟨_, rfl, wpAny_letOwnedTupleGo_enum (s := { s with heap := h', toks := tk + 1 }) ho fun h'' he' sb => ?_⟩
    have hT2 : h''.get? s.heap.objs.size = some { cls := .type "tuple", data := .seq #[.int i tk, x'] } := (sb.2 _ (Nat.ne_of_gt hel)).trans hT
    have new : ObjOk X.prog X.w (upd H s.heap.objs.size (.tup [.int (i : Nat), x])) h'' s.heap.objs.size (.tup [.int (i : Nat), x]) :=
      ⟨by show 2 ≤ sizeLine; decide, [.int i tk, x'], .cons ⟨_, rfl⟩ (.cons ru .nil), ⟨_, hT2, rfl, _, rfl⟩⟩
    have I1 : Inv X pins σ (upd H s.heap.objs.size (.tup [.int (i : Nat), x])) { s with heap := h'', toks := tk + 1 } :=
      I.turnedNew (ch := [e, it]) (fun b ob hb q => (sb.2 b (fun z => hb (by simp [z]))).trans (hk b ob (fun z => hb (by simp [z])) (fun z => hb (by simp [z])) q)) hf (Nat.le_refl _) new
    refine ⟨.ref s.heap.objs.size, _, I1, rfl, ⟨_, x, rfl, I.hok.fresh (Nat.le_refl _), rfl, fun ys hy => by rw [I.tuple_inj hy hq]; exact hx⟩, ⟨⟨x', ?_⟩, hit'.1.at fun o q => (sb.2 it (Ne.symm hne)).trans q, hne, hai, hae⟩, fun b hb => ?_⟩
    · have e1 : ((i + 1 : Nat) : Int) = (i : Int) + 1 := by omega
      rw [e1]; exact he'
    · have hb' : b < s.heap.objs.size := by
        have e' : b = e ∨ b = it := by simpa using hb
        rcases e' with z | z
        · rw [z]; exact hel
        · rw [z]; exact hil
      rw [upd_ne (Nat.ne_of_lt hb')]
      exact (hf b hb).1
  done := by
    intro X hP hw hK hc i pins s σ H E I hf st hg
    subst hP hw hK
    obtain ⟨⟨old, he⟩, hit, hne, hai, hae⟩ := st
    obtain ⟨xs, hq, hx⟩ := hg
    obtain ⟨its, rv, p, hz⟩ := I.tuple hq
    obtain ⟨f0, f1, f2, f3, f4, f5⟩ := hf it (by simp)
    have hl := rv.length
    have D := Draws.tuple (prog := X.prog) (w := X.w) (show X.A.in1.handled = none from I.ok.hd hc) it a hai its.toArray
    have e3 : i = its.toArray.size := by simp; omega
    subst e3
    exact wpAny_pyNext_enum_endD D he ⟨hit, p⟩ fun h' eb => ⟨rfl, I.turned (t' := s.toks) (fun b o hb q => eb b o hb q) f0 f1 f3 f4 f5⟩
  self := fun A i s Q E st h => let ⟨⟨_, he⟩, _⟩ := st; wpAny_pyIter_enum he h
end U

/-! U12: loops of any kind, locked dicts, dict operations by Kn. -/
namespace U
open PySem PySem.Spec L2
open PySem.W (findIn)
open PyProof.Rows hiding St
/-- an iterator: n turns while S stands; what it gives at a turn is told by Y -/
structure ItG (J : It) (n : Nat) (S : Hp → Prop) (Y : Nat → Hp → V → Hp → Prop) : Prop where
  stop : ∀ H, S H → J.stop n H
  go : ∀ i H, i < n → S H → J.go i H
  yld : ∀ i H x H', i < n → S H → J.yld i H x H' → Y i H x H'
/-- a new tuple at each turn -/
def YT (f : Nat → List V) : Nat → Hp → V → Hp → Prop := fun i H x H' => ∃ T, x = .ref T ∧ H T = none ∧ H' = upd H T (.tup (f i))
def YV (f : Nat → V) : Nat → Hp → V → Hp → Prop := fun i H x H' => x = f i ∧ H' = H
theorem ItW.g {J : It} {n : Nat} {f : Nat → V} {S : Hp → Prop} (W : ItW J n f S) : ItG J n S (YV f) := ⟨W.stop, W.go, W.yld⟩
theorem itg_items {d : Addr} {o : Obj} {kvs : List (Key × V)} : ItG (Iti d o kvs) kvs.length (fun H => H d = some (.frz o (.dK kvs))) (YT fun i => match kvs[i]? with | some p => [kV p.1, p.2] | none => []) :=
  ⟨fun H h => ⟨h, Nat.le_refl _⟩, fun i H hi h => ⟨h, hi⟩, fun i H x H' hi h y => by
    obtain ⟨T, k, v, hk, ex, hT, eH⟩ := y
    refine ⟨T, ex, hT, ?_⟩
    dsimp only
    rw [hk]
    exact eH⟩
theorem itg_enumT {K : PySem.W.Frag} {a : Addr} {xs : List V} : ItG (IteT K a) xs.length (fun H => SqT K H a xs) (YT fun i => [.int (i : Nat), xs.getD i .non]) :=
  ⟨fun H h => ⟨xs, h, rfl⟩, fun i H hi h => ⟨xs, xs[i], h, by simp [hi]⟩, fun i H x H' hi h y => by
    obtain ⟨T, x', ex, hT, eH, z⟩ := y
    refine ⟨T, ex, hT, ?_⟩
    dsimp only
    rw [List.getD_eq_getElem?_getD, z xs h]
    exact eH⟩
theorem itg_enumL {K : PySem.W.Frag} {a : Addr} {xs : List V} : ItG (Ite K a) xs.length (fun H => SqL K H a xs) (YT fun i => [.int (i : Nat), xs.getD i .non]) :=
  ⟨fun H h => ⟨xs, h, Nat.le_refl _⟩, fun i H hi h => ⟨xs, xs[i], h, by simp [hi]⟩, fun i H x H' hi h y => by
    obtain ⟨T, x', ex, hT, eH, z⟩ := y
    refine ⟨T, ex, hT, ?_⟩
    dsimp only
    rw [List.getD_eq_getElem?_getD, z xs h]
    exact eH⟩
section
variable {P : Program} {w : World} {K : PySem.W.Frag} {mg : Str → Option Value} {base : Heap} {k : Nat} {VL AL : List (Option Str)} {GL : List Str} {E : WX} {X : Cx} {σ : St} {H : Hp} {Q : VK} {pos p tpos : Pos} {tg iter e : Expr} {nx : St → Hp → Prop} {rt : VK} {bk ct : St → Hp → Prop} {rest body : List Stmt}
theorem yt_kn {f : Nat → List V} {i : Nat} {H H' : Hp} {x : V} {R : Hp → Prop} {M : List (Addr × (HO → Prop))} {L : List (Addr × Obj)} (y : YT f i H x H') (kn : Kn R M L H) : ∃ T, x = .ref T ∧ Kn (Cj (Ex T (.tup (f i))) R) M L H' := by
  obtain ⟨T, ex, hT, eH⟩ := y
  subst eH
  exact ⟨T, ex, kn.newX hT (fun n => by rcases n with ⟨_, e⟩ | ⟨_, e⟩ <;> cases e) fun _ _ e => by cases e⟩
theorem wi_items (cx : CxI P w K mg base k VL AL GL E X) {elts : List Expr} {kk : Nat} {apos cpos : Pos} {R : It → Hp → Prop} (h : We X e σ H fun x H1 => ∃ d o kvs, x = .ref d ∧ H1 d = some (.frz o (.dK kvs)) ∧ R (Iti d o kvs) H1)
    (hbase : attributeBase e "items" X.env (eval e X.env) = eval e X.env := by kernel_rfl) (hline : (apos.endLine == cpos.line) = true := by kernel_rfl) : Wi X (.Tuple elts kk tpos) (.Call (.Attribute e "items" apos) [] [] cpos) σ H R :=
  ofPI (pi_items peU hbase hline) h
theorem wi_enumT (cx : CxI P w K mg base k VL AL GL E X) (hg : In ("enumerate" : Str) GL) {elts : List Expr} {kk : Nat} {R : It → Hp → Prop} (h : We X e σ H fun x H1 => ∃ a xs, x = .ref a ∧ SqT K H1 a xs ∧ R (IteT K a) H1)
    (hs : starEach [e] X.env = [(false, eval e X.env)] := by kernel_rfl) : Wi X (.Tuple elts kk tpos) (.Call (.Name "enumerate" p) [e] [] pos) σ H R := by
  have g := cx.gl hg
  have hm : X.mg "enumerate" = none := cx.bltn (by decide +kernel)
  have e3 := cx.eK
  subst e3
  intro pins s I
  have pa : PA X [e] (Wa X [e]) := paU
  have hw : Wa X [e] σ H fun vs H1 => ∃ a xs, vs = [.ref a] ∧ SqT X.K H1 a xs ∧ R (IteT X.K a) H1 :=
    ofPA (pa_cons peU pa_nil (by rw [hs]; rfl)) fun pins s I => thn (h pins s I) fun v s1 ⟨x, H1, I1, r, a, xs, ex, q1, q2⟩ => ⟨x, H1, I1, r, a, xs, by rw [ex], q1, q2⟩
  refine Call_ (ld_blt I g.1 hm boot_enumerate (PyProof.Rows.callWith_type1 (thn (hw pos pins s I) fun us s1 ⟨vs, H1, I1, r1, q1⟩ => ?_) hs rfl))
  obtain ⟨a, xs, ex, hq, q⟩ := q1
  subst ex
  cases r1 with
  | cons r rr =>
    cases rr
    cases r
    obtain ⟨its, rv, p', hz⟩ := I1.tuple hq
    have ha : a < s1.heap.objs.size := by obtain ⟨o, z, _⟩ := p'; exact Heap.lt_size z
    refine call_enumerate_b (begins_tuple a its.toArray) p' fun h' he hit hsz hk => wpAny_pyIter_enum he ?_
    have I2 : Inv X pins σ H1 { s1 with heap := h' } := I1.kept (t' := s1.toks) hk
    refine ⟨s1.heap.objs.size + 1, [s1.heap.objs.size + 1, s1.heap.objs.size], _, _, H1, rfl, I2, turn_enumT a (s1.heap.objs.size + 1) s1.heap.objs.size, ⟨⟨.none, he⟩, ⟨_, hit, rfl, rfl⟩, Nat.succ_ne_self _, Nat.ne_of_lt ha, Nat.ne_of_lt (Nat.lt_succ_of_lt ha)⟩, fun b hb => ?_, q⟩
    have e' : b = s1.heap.objs.size + 1 ∨ b = s1.heap.objs.size := by simpa using hb
    have hle : s1.heap.objs.size ≤ b := by
      rcases e' with z | z
      · rw [z]; exact Nat.le_add_right _ _
      · rw [z]; exact Nat.le_refl _
    exact I1.fpOk hle (I1.hok.fresh hle)
theorem wi_enumL (cx : CxI P w K mg base k VL AL GL E X) (hg : In ("enumerate" : Str) GL) {elts : List Expr} {kk : Nat} {R : It → Hp → Prop} (h : We X e σ H fun x H1 => ∃ a xs, x = .ref a ∧ SqL K H1 a xs ∧ R (Ite K a) H1)
    (hs : starEach [e] X.env = [(false, eval e X.env)] := by kernel_rfl) : Wi X (.Tuple elts kk tpos) (.Call (.Name "enumerate" p) [e] [] pos) σ H R := by
  have g := cx.gl hg
  have hm : X.mg "enumerate" = none := cx.bltn (by decide +kernel)
  have e3 := cx.eK
  subst e3
  refine ofPI (pi_enum g.1 hm (pa_cons peU pa_nil (by rw [hs]; rfl)) hs) ?_
  exact fun pins s I => thn (h pins s I) fun v s1 ⟨x, H1, I1, r, a, xs, ex, q1, q2⟩ => ⟨x, H1, I1, r, a, xs, by rw [ex], q1, q2⟩
/-! ### for -/
theorem ws_for (cx : CxI P w K mg base k VL AL GL E X)
    (h : Wi X tg iter σ H fun J H1 => ∃ n S Y, ItG J n S Y ∧ ∃ Pv : Nat → St → Hp → Prop, Pv 0 σ H1 ∧ (∀ i σ H, i ≤ n → Pv i σ H → S H) ∧
      (∀ i σ H, i < n → Pv i σ H → ∀ x H', Y i H x H' → Wg X tg x σ H' fun σ2 H2 => Wss X body ⟨Pv (i + 1), rt, nx, Pv (i + 1)⟩ σ2 H2) ∧ ∀ σ H, Pv n σ H → nx σ H)
    (hs : ∀ x, foldedSetIterable iter X.env x = pure x := by exact (fun _ => by kernel_rfl)) : Ws X (.For tg iter body [] pos) ⟨nx, rt, bk, ct⟩ σ H := by
  refine ofPS (ps_for cx.pas cx.calm piU pgU pssU hs) ?_
  refine fun pins s I => thn (h pins s I) fun v s1 q => thn q fun itv s2 q => ?_
  obtain ⟨it, fp, tn, J, H', e, I', T, t0, fpk, n, S, Y, W, Pv, p0, pS, step, fin⟩ := q
  refine ⟨it, fp, tn, J, H', e, I', T, t0, fpk, fun i m σ H => m = n - i ∧ i ≤ n ∧ Pv i σ H, ⟨n, by simp, Nat.zero_le _, p0⟩, ?_⟩
  rintro i m σ H ⟨rfl, hi, p⟩
  by_cases hlt : i < n
  · exact .inr ⟨W.go i H hlt (pS i σ H hi p), Pv (i + 1), fun σ' H' p' => ⟨n - (i + 1), by omega, rfl, hlt, p'⟩, fun x H' y => step i σ H hlt p x H' (W.yld i H x H' hlt (pS i σ H hi p) y)⟩
  · have e : i = n := by omega
    subst e
    exact .inl ⟨W.stop H (pS _ σ H hi p), fin σ H p⟩
theorem s_forG (cx : CxI P w K mg base k VL AL GL E X)
    (h : Wi X tg iter σ H fun J H1 => ∃ n S Y, ItG J n S Y ∧ ∃ Pv : Nat → St → Hp → Prop, Pv 0 σ H1 ∧ (∀ i σ H, i ≤ n → Pv i σ H → S H) ∧
      (∀ i σ H, i < n → Pv i σ H → ∀ x H', Y i H x H' → Wg X tg x σ H' fun σ2 H2 => Wss X body ⟨Pv (i + 1), rt, fun σ' H' => Wss X rest ⟨nx, rt, bk, ct⟩ σ' H', Pv (i + 1)⟩ σ2 H2) ∧ ∀ σ H, Pv n σ H → Wss X rest ⟨nx, rt, bk, ct⟩ σ H)
    (hs : ∀ x, foldedSetIterable iter X.env x = pure x := by exact (fun _ => by kernel_rfl)) : Wss X (.For tg iter body [] pos :: rest) ⟨nx, rt, bk, ct⟩ σ H := s_cons (ws_for cx h hs)
/-! ### locks -/
variable {R : Hp → Prop} {M M' : List (Addr × (HO → Prop))} {L : List (Addr × Obj)} {d : Addr} {kvs : List (Key × V)} {v : V} {kk : Key}
theorem s_lock {st : Stmt} (kn : Kn R M L H) (en : Ent R (At d (.dK kvs))) (hl : d ∉ L.map (·.1))
    (h : ∀ od H1, Kn R M ((d, od) :: L) H1 → Ws X st ⟨fun σ' H2 => ∃ R' M', Kn R' M' ((d, od) :: L) H2 ∧ Ent R' (At d (.dK kvs)) ∧ ∀ H3, Kn R' M' L H3 → Wss X rest ⟨nx, rt, bk, ct⟩ σ' H3, fun _ _ => False, fun _ _ => False, fun _ _ => False⟩ σ H1) :
    Wss X (st :: rest) ⟨nx, rt, bk, ct⟩ σ H := by
  have nf : Nfz (.dK kvs) := .inl ⟨_, rfl⟩
  refine s_cons (ofPS (ps_lock psU) ⟨d, .dK kvs, kn.at_ en hl nf, trivial, fun od => ?_⟩)
  intro pins s I
  refine thn (h od _ (kn.lock en hl nf) pins s I) fun f s1 q => ?_
  cases f with
  | next =>
    obtain ⟨σ', H', I2, R', M', kn', en', q⟩ := q
    exact ⟨σ', H', I2, kn'.frz_ en' nf, q _ (kn'.unlock en' nf)⟩
  | brk => obtain ⟨_, _, _, q⟩ := q; exact q.elim
  | cont => obtain ⟨_, _, _, q⟩ := q; exact q.elim
  | ret v => obtain ⟨_, _, _, _, _, q⟩ := q; exact q.elim
theorem w_lock (kn : Kn R M L H) (en : Ent R (At d (.dK kvs))) (hl : d ∉ L.map (·.1))
    (h : ∀ od H1, Kn R M ((d, od) :: L) H1 → We X e σ H1 fun v H2 => ∃ R' M', Kn R' M' ((d, od) :: L) H2 ∧ Ent R' (At d (.dK kvs)) ∧ ∀ H3, Kn R' M' L H3 → Q v H3) : We X e σ H Q := by
  have nf : Nfz (.dK kvs) := .inl ⟨_, rfl⟩
  refine ofPE (pe_lock peU) ⟨d, .dK kvs, kn.at_ en hl nf, trivial, fun od => ?_⟩
  intro pins s I
  exact thn (h od _ (kn.lock en hl nf) pins s I) fun v s1 ⟨x, H2, I2, r, R', M', kn', en', q⟩ => ⟨x, H2, I2, r, kn'.frz_ en' nf, q _ (kn'.unlock en' nf)⟩
/-- the keys of a locked dict -/
theorem wi_keysK {R' : It → Hp → Prop} (h : We X iter σ H fun x H1 => ∃ R M L od, x = .ref d ∧ Kn R M ((d, od) :: L) H1 ∧ Ent R (At d (.dK kvs)) ∧ R' (Itk d od kvs) H1) : Wi X tg iter σ H R' :=
  wi_keys fun pins s I => thn (h pins s I) fun v s1 ⟨x, H1, I1, r, R, M, L, od, ex, kn, en, q⟩ => ⟨x, H1, I1, r, d, od, kvs, ex, kn.frz_ en (.inl ⟨_, rfl⟩), q⟩
/-! ### operations -/
theorem Kn.rdO {o : HO} {a : Addr} (kn : Kn R M L H) (h : Has a (Is o) M) : Rd H a o := .inl (kn.is h)
theorem w_dnew (kn : Kn R M L H) (h : ∀ p H', Kn R ((p, Is (.dK [])) :: M) L H' → Q (.ref p) H') : We X (.Dict [] [] pos) σ H Q :=
  ofPE pe_dnewK fun p hp => h p _ (kn.new hp rfl)
theorem x_dgetR (cx : CxI P w K mg base k VL AL GL E X) {a : Addr} (hd : Rd H a (.dK kvs)) (hv : valV kvs kk = some v) (h : Q v H) : Wix X (.ref a) (kV kk) H Q := by
  intro value slice pins s σ o u I r1 r2 hs
  cases (show o = Value.ref a from r1)
  have g : DGet H a (kV kk) (some v) := .inl ⟨kvs, kk, hd, rfl, hv.symm⟩
  exact tail_any (dict_typeIs I g) slot_dict_getitem.lookup (d_getItem (hu_of cx.room) I g r2 fun w' s' I' rw' => ⟨v, H, I', rw', h⟩) hs
theorem o_dinR (cx : CxI P w K mg base k VL AL GL E X) {a : Addr} (hd : Rd H a (.dK kvs)) (h : Q (.bl (valV kvs kk).isSome) H) : Wop X (compareOp .In) (kV kk) (.ref a) H Q := by
  intro pins s σ u o I r1 r2
  cases (show o = Value.ref a from r2)
  exact d_in (hu_of cx.room) I (.inl ⟨kvs, kk, hd, rfl, rfl⟩) r1 fun s' I' => ⟨.bl _, H, I', rfl, h⟩
theorem o_dninR (cx : CxI P w K mg base k VL AL GL E X) {a : Addr} (hd : Rd H a (.dK kvs)) (h : Q (.bl (!(valV kvs kk).isSome)) H) : Wop X (compareOp .NotIn) (kV kk) (.ref a) H Q := by
  intro pins s σ u o I r1 r2
  cases (show o = Value.ref a from r2)
  exact d_notIn (hu_of cx.room) I (.inl ⟨kvs, kk, hd, rfl, rfl⟩) r1 fun s' I' => ⟨.bl _, H, I', rfl, h⟩
theorem p_dputR (cx : CxI P w K mg base k VL AL GL E X) {a : Addr} (kn : Kn R M L H) (hp : Put a (Is (.dK kvs)) (Is (.dK (putK kvs kk v))) M M') (hl : kvs.length < 1000000) {S : Hp → Prop} (h : ∀ H', Kn R M' L H' → S H') : Wset X (.ref a) (kV kk) v H S := by
  intro pins s σ o i u I r1 r2 r3
  cases (show o = Value.ref a from r1)
  exact d_setItem (hu_of cx.room) I (DPut.k (kn.is hp.has) (Nat.lt_trans hl (by decide))) r2 r3 fun s' I' => ⟨_, I', h _ (kn.write hp rfl)⟩
/-! keys that are ints -/
theorem x_dget (cx : CxI P w K mg base k VL AL GL E X) {a : Addr} {i : Int} (hd : Rd H a (.dK kvs)) (hv : valV kvs (.inl i) = some v) (h : Q v H) : Wix X (.ref a) (.int i) H Q := x_dgetR (kk := .inl i) cx hd hv h
theorem o_din (cx : CxI P w K mg base k VL AL GL E X) {a : Addr} {i : Int} (hd : Rd H a (.dK kvs)) (h : Q (.bl (valV kvs (.inl i)).isSome) H) : Wop X (compareOp .In) (.int i) (.ref a) H Q := o_dinR (kk := .inl i) cx hd h
theorem o_dnin (cx : CxI P w K mg base k VL AL GL E X) {a : Addr} {i : Int} (hd : Rd H a (.dK kvs)) (h : Q (.bl (!(valV kvs (.inl i)).isSome)) H) : Wop X (compareOp .NotIn) (.int i) (.ref a) H Q := o_dninR (kk := .inl i) cx hd h
theorem p_dput (cx : CxI P w K mg base k VL AL GL E X) {a : Addr} {i : Int} (kn : Kn R M L H) (hp : Put a (Is (.dK kvs)) (Is (.dK (putK kvs (.inl i) v))) M M') (hl : kvs.length < 1000000) {S : Hp → Prop} (h : ∀ H', Kn R M' L H' → S H') : Wset X (.ref a) (.int i) v H S := p_dputR (kk := .inl i) cx kn hp hl h
/-- d.get(k, x) -/
theorem w_dget2 (cx : CxI P w K mg base k VL AL GL E X) {o e f : Expr} {apos cpos : Pos} (h : We X o σ H fun x H1 => ∃ a kvs, x = .ref a ∧ Rd H1 a (.dK kvs) ∧ We X e σ H1 fun y H2 => We X f σ H2 fun z H3 => ∃ kk, y = kV kk ∧ Rd H3 a (.dK kvs) ∧ Q ((valV kvs kk).getD z) H3)
    (hb : attributeBase o "get" X.env (eval o X.env) = eval o X.env := by kernel_rfl) (hline : (apos.endLine == cpos.line) = true := by kernel_rfl) (ht : backTo cpos (starEach [e, f] X.env) = [(false, eval e X.env), (false, eval f X.env)] := by kernel_rfl)
    (hfew : ((backTo cpos (starEach [e, f] X.env)).all (fun x => !x.1) && (backToKw cpos (keywordEach [] X.env)).all (fun x => x.1.isSome)
    && decide (([e, f] : List Expr).length + ([] : List Keyword).length + (if ([] : List Keyword).isEmpty then 0 else 1) < 30)) = true := by kernel_rfl) : We X (.Call (.Attribute o "get" apos) [e, f] [] cpos) σ H Q := by
  refine ofPE (pe_dget2 (hu_of cx.room) peU peU peU ⟨hb, hfew, hline, ht⟩) ?_
  refine fun pins s I => thn (h pins s I) fun v s1 ⟨x, H1, I1, r, a, kvs, ex, d, q⟩ => ⟨x, H1, I1, r, a, ex, .inl ⟨kvs, d⟩, ?_⟩
  refine fun pins s I => thn (q pins s I) fun v s1 ⟨y, H2, I2, r2, q2⟩ => ⟨y, H2, I2, r2, ?_⟩
  exact fun pins s I => thn (q2 pins s I) fun v s1 ⟨z, H3, I3, r3, kk, ey, d3, q3⟩ => ⟨z, H3, I3, r3, _, .inl ⟨kvs, kk, d3, ey, rfl⟩, q3⟩
/-- dict(d), len(d), list(d), min(d) -/
theorem c_dictD {a : Addr} (kn : Kn R M L H) (hd : Rd H a (.dK kvs)) (h : ∀ p H', Kn R ((p, Is (.dK kvs)) :: M) L H' → Q (.ref p) H') : Wcall X (.type "dict") [.ref a] H Q :=
  ofCall call_dictD ⟨a, kvs, rfl, hd, fun p hp => h p _ (kn.new hp rfl)⟩
theorem c_lenD {a : Addr} (hd : Rd H a (.dK kvs)) (h : Q (.int kvs.length) H) : Wcall X (.builtin "len") [.ref a] H Q := by
  intro pins s σ us I r
  obtain ⟨u, rfl, r1⟩ := r.one
  cases (show u = Value.ref a from r1)
  exact d_len I hd fun t s' I' => ⟨.int kvs.length, H, I', ⟨t, rfl⟩, h⟩
theorem c_listD (cx : CxI P w K mg base k VL AL GL E X) {a : Addr} (kn : Kn R M L H) (hd : Rd H a (.dK kvs)) (h : ∀ p H', Kn R ((p, Is (.lst (kvs.map fun kv => kV kv.1))) :: M) L H' → Q (.ref p) H') : Wcall X (.type "list") [.ref a] H Q :=
  ofCall (call_listD cx.calm) ⟨a, kvs, rfl, hd, fun p hp => h p _ (kn.new hp rfl)⟩
theorem c_minD (cx : CxI P w K mg base k VL AL GL E X) {a : Addr} {is : List Int} (hd : H a = some (.dK kvs)) (hk : kvs.map (·.1) = is.map Sum.inl) (hne : is ≠ []) (h : ∀ m, m ∈ is → (∀ j ∈ is, m ≤ j) → Q (.int m) H) : Wcall X (.builtin "min") [.ref a] H Q :=
  ofCall (cr_minK cx.calm) ⟨a, kvs, is, rfl, hd, hk, hne, h⟩
/-- sorted(d) of a dict with int keys, any number of them -/
theorem call_sortedDIn {X : Cx} (hcalm : X.calm = true) : CallR X (.builtin "sorted") (fun xs H Q => ∃ (a : Addr) (kvs : List (Key × V)) (ks : List Int), xs = [.ref a] ∧ Rd H a (.dK kvs) ∧ kvs.map (·.1) = ks.map Sum.inl ∧
    ∀ (ys : List Int) (p : Addr), ys.Perm ks → ys.Pairwise (· ≤ ·) → H p = none → Q (.ref p) (upd H p (.lst (ys.map V.int)))) := by
  intro pins s σ H xs us Q I r q
  obtain ⟨a, kvs, ks, ex, hd, hks, q⟩ := q
  subst ex
  obtain ⟨u, eu, rx⟩ := r.one
  subst eu
  cases rx
  obtain ⟨z, lo, vs, rel, dd⟩ := dk_rd I.hok hd
  obtain ⟨ep, hat⟩ := dd.dictAt
  have hkeys : vs.map (·.1) = ks.map Sum.inl := rel.keys.symm.trans hks
  have hl : vs.length = ks.length := by
    have e := congrArg List.length hkeys
    rw [List.length_map, List.length_map] at e
    exact e
  have h16 : vs.length ≤ sizeLine := by rw [← rel.length]; exact z
  refine Calls.call_function_entry PyProof.Rows.kind_sorted PyProof.Rows.plain_sorted PyProof.Rows.entry_sorted (PyProof.Rows.args_sorted1 _) ?_
  unfold Builtin.«sorted»
  refine wpAny_bind (m := checkCount "sorted" 1 1 _) (wpAny_pure ?_)
  refine wpAny_bind (PySem.W.kdu_collect (A := X.A.in1) (PySem.W.kdl_dict (knd := mixKind X.prog X.w) (kvs := vs) (ep := ep) lo) (I.ok.hd hcalm) hat h16 fun h' tk acc hk hacc => ?_)
  have hal : acc.toList.length = ks.length := by rw [Array.length_toList, hacc.1, hl]
  have hS : IntsAre acc.toList ks := ints_each hal fun j v e => by
    obtain ⟨k, x, e1, e2⟩ := hacc.2 j v (by rw [← Array.getElem?_toList]; exact e)
    have e3 : (vs.map (·.1))[j]? = some k := by rw [List.getElem?_map, e1]; rfl
    rw [hkeys, List.getElem?_map] at e3
    cases e4 : ks[j]? with
    | none => rw [e4] at e3; cases e3
    | some y =>
      rw [e4] at e3
      have e5 : Sum.inl y = k := Option.some.inj e3
      subst e5
      rcases keyIs_shape (show keyIs (Sum.inl y) v = true from e2) with ⟨i, t, ek, ev⟩ | ⟨z, t, ek, ev⟩
      · cases ek
        exact ⟨y, t, rfl, ev⟩
      · cases ek
  have hz : acc.toList.length ≤ sizeLine := by rw [hal, ← hl]; exact h16
  have I1 : Inv X pins σ H { s with heap := h', toks := tk } := I.kept hk
  refine wpAny_bind (wpAny_newList ?_ hz)
  have hoL : (h'.push (seqObj "list" acc.toList.toArray 0)).get? h'.objs.size = some (seqObj "list" acc.toList.toArray 0) := Heap.get?_push_size _ rfl
  show wpAny _ _ _ _ _ { s with heap := h'.push (seqObj "list" acc.toList.toArray 0), toks := tk }
  refine wpAny_bind (wpAny_holding (wpAny_call_entry PyProof.Rows.slot_list_sort ⟨_, hoL, rfl⟩ PyProof.Rows.entry_list_sort
    (SrtO.list_sort_ord (s := { s with heap := h'.push (seqObj "list" acc.toList.toArray 0), toks := tk }) SrtO.swo_int hoL hz (fun h2 => SrtO.ints_sortable hS h2) fun out g1 g2 => ⟨_, rfl, ?_⟩) (PyProof.Rows.args_list_sort _)))
  obtain ⟨k1, k2, k3⟩ := SrtO.ints_out hS g1 g2
  obtain ⟨e', he'⟩ := PyProof.Rows.sortedHeap_at (vs := acc.toList) (out := out.toArray) hoL
  have hlen : ((out.map SrtO.iv).map V.int).length ≤ sizeLine := by
    rw [List.length_map, k2.length_eq, ← hl]
    exact h16
  refine wpAny_pure ⟨_, rfl, .ref h'.objs.size, upd H h'.objs.size (.lst ((out.map SrtO.iv).map V.int)), I1.laid (t' := tk) (fun b u e => ?_) (Nat.le_refl _)
    (show ObjOk X.prog X.w _ _ _ (.lst ((out.map SrtO.iv).map V.int)) from ⟨hlen, out, e', vals_of_ints k1, he'⟩), rfl, q _ _ k2 k3 (I1.hok.fresh (Nat.le_refl _))⟩
  have hb : b < h'.objs.size := Heap.lt_size e
  rw [PyProof.Rows.sortedHeap_old (Nat.ne_of_lt hb) (by rw [size_push']; exact Nat.lt_succ_of_lt hb)]
  exact Heap.get?_push_of_some _ e
theorem c_sortedD (cx : CxI P w K mg base k VL AL GL E X) {a : Addr} {is : List Int} (kn : Kn R M L H) (hd : Rd H a (.dK kvs)) (hk : kvs.map (·.1) = is.map Sum.inl) (h : ∀ (ys : List Int) p H', ys.Perm is → ys.Pairwise (· ≤ ·) → Kn R ((p, Is (.lst (ys.map V.int))) :: M) L H' → Q (.ref p) H') : Wcall X (.builtin "sorted") [.ref a] H Q :=
  ofCall (call_sortedDIn cx.calm) ⟨a, kvs, is, rfl, hd, hk, fun ys p h1 h2 hp => h ys p _ h1 h2 (kn.new hp rfl)⟩
theorem c_sortedI {a : Addr} {ns : List Int} (cx : CxI P w K mg base k VL AL GL E X) (kn : Kn R M L H) (hs : SqL K H a (ns.map V.int)) (h : ∀ (ys : List Int) p H', ys.Perm ns → ys.Pairwise (· ≤ ·) → Kn R ((p, Is (.lst (ys.map V.int))) :: M) L H' → Q (.ref p) H') : Wcall X (.builtin "sorted") [.ref a] H Q := by
  have e3 := cx.eK
  subst e3
  exact ofCall cr_sortedI ⟨a, ns, rfl, hs, fun ys p h1 h2 hp => h ys p _ h1 h2 (kn.new hp rfl)⟩
/-- tuple(list) -/
theorem c_tupL {a : Addr} {xs : List V} (cx : CxI P w K mg base k VL AL GL E X) (kn : Kn R M L H) (hs : SqL K H a xs) (h : ∀ p H', Kn (Cj (Ex p (.tup xs)) R) M L H' → Q (.ref p) H') : Wcall X (.type "tuple") [.ref a] H Q := by
  have e3 := cx.eK
  subst e3
  exact ofCall call_tuple_of ⟨a, xs, rfl, .inl ⟨hs, fun p hp => h p _ (kn.newX hp (fun n => by rcases n with ⟨_, e⟩ | ⟨_, e⟩ <;> cases e) fun _ _ e => by cases e)⟩⟩
theorem c_listL {a : Addr} {xs : List V} (cx : CxI P w K mg base k VL AL GL E X) (kn : Kn R M L H) (hs : SqL K H a xs ∨ SqT K H a xs) (h : ∀ p H', Kn R ((p, Is (.lst xs)) :: M) L H' → Q (.ref p) H') : Wcall X (.type "list") [.ref a] H Q := by
  have e3 := cx.eK
  subst e3
  exact ofCall call_list_of ⟨a, xs, rfl, hs, fun p hp => h p _ (kn.new hp rfl)⟩
/-- list.append -/
theorem w_append (cx : CxI P w K mg base k VL AL GL E X) {o : Expr} {apos : Pos} (h : We X o σ H fun x H1 => ∃ a, x = .ref a ∧ (∃ xs, H1 a = some (.lst xs)) ∧ We X e σ H1 fun y H2 => ∃ R M M' L xs, Kn R M L H2 ∧ Put a (Is (.lst xs)) (Is (.lst (xs ++ [y]))) M M' ∧ xs.length < 1000000 ∧ ∀ H', Kn R M' L H' → Q .non H')
    (hbase : attributeBase o "append" X.env (eval o X.env) = eval o X.env := by kernel_rfl)
    (hfew : ((backTo pos (starEach [e] X.env)).all (fun x => !x.1) && (backToKw pos (keywordEach [] X.env)).all (fun x => x.1.isSome)
      && decide ([e].length + ([] : List Keyword).length + (if ([] : List Keyword).isEmpty then 0 else 1) < 30)) = true := by kernel_rfl)
    (hline : (apos.endLine == pos.line) = true := by kernel_rfl) (hs : starEach [e] X.env = (false, eval e X.env) :: starEach [] X.env := by kernel_rfl) (hplain : (backTo pos (starEach [] X.env)).any (·.1) = false := by kernel_rfl) :
    We X (.Call (.Attribute o "append" apos) [e] [] pos) σ H Q := by
  have e3 := cx.eK
  subst e3
  refine ofPE (pe_bm PySem.F.plainAttrs_list PySem.F.slot_list_append PySem.F.type_list_append mt_append peU (pa_cons peU pa_nil hs) hbase hfew hline hs hplain) ?_
  refine fun pins s I => thn (h pins s I) fun v s1 ⟨x, H1, I1, r1, a, ex, ⟨xs, hx⟩, q⟩ => ⟨x, H1, I1, r1, by rw [ex]; exact Or.inl ⟨rfl, xs, Or.inl (Or.inl hx)⟩, ?_⟩
  refine fun pins s I => thn (q pins s I) fun v s1 ⟨y, H2, I2, r2, R, M, M', L, xs, kn, hp, hl, z⟩ => ⟨y, H2, I2, r2, a, xs, y, ex, rfl, kn.is hp.has, Nat.lt_trans hl (by decide), z _ (kn.write hp rfl)⟩
end
end U

/-! U13: op=, parallel assignment, comprehensions of any walk. -/
namespace U
open PySem PySem.Spec L2
open PySem.W (findIn)
open PyProof.Rows hiding St
section
variable {P : Program} {w : World} {K : PySem.W.Frag} {mg : Str → Option Value} {base : Heap} {k : Nat} {VL AL : List (Option Str)} {GL : List Str} {E : WX} {X : Cx} {σ : St} {H : Hp} {Q : VK} {pos pos' p tpos : Pos} {tg iter e : Expr} {nx : St → Hp → Prop} {rt : VK} {bk ct : St → Hp → Prop} {rest body : List Stmt} {x y : Str} {v : V}
theorem s_aug (cx : CxI P w K mg base k VL AL GL E X) {op : Operator} {v : V} (hv : SlotIs x v VL σ) (hAV : AL = VL) (h : We X e σ H fun y H1 => Wop X (inplaceOp op) v y H1 fun z H2 => ∃ σ', SetAt x z AL σ σ' ∧ Wss X rest ⟨nx, rt, bk, ct⟩ σ' H2) : Wss X (.AugAssign (.Name x pos') op e pos :: rest) ⟨nx, rt, bk, ct⟩ σ H := by
  obtain ⟨i, hi, hσ⟩ := hv.ix
  have qok := cx.ok
  unfold okAll at qok
  simp only [Bool.and_eq_true] at qok
  subst hAV
  obtain ⟨c, d⟩ := slOk_of qok.1.2 hi
  have l := asgB_of d
  have f : X.fn x = true ∨ X.env.scope.names.lookup x = some .local := by
    rcases cx.fn x with f | f | f
    · exact .inl f
    · exact absurd (List.mem_of_getElem? hi) f
    · exact .inr f
  refine s_cons (ofPS (ps_aug (op := op) (ti := fun x y H Q => Wop X (inplaceOp op) x y H Q) cx.nd c l peU (fun pins s σ H x y v u Q I r1 r2 h => h pins s σ v u I r1 r2) f) ⟨v, hσ, ?_⟩)
  refine fun pins s I => thn (h pins s I) fun u s1 ⟨y, H1, I1, r, q⟩ => ⟨y, H1, I1, r, fun pins s σ' v u I r1 r2 => thn (q pins s σ' v u I r1 r2) fun u s1 ⟨z, H2, I2, r2, σ2, hs, q2⟩ => ⟨z, H2, I2, r2, ?_⟩⟩
  obtain ⟨j, hj, e⟩ := hs.ix
  have hji : j = i := by
    obtain ⟨cj, _⟩ := slOk_of qok.1.2 hj
    exact nodup_ix cx.nd cj c
  subst hji
  subst e
  exact q2
theorem i_add {i j : Int} (h : Q (.int (i + j)) H) : Wop X (inplaceOp .Add) (.int i) (.int j) H Q := by
  intro pins s σ v u I r1 r2
  obtain ⟨t, rfl⟩ := r1
  obtain ⟨t', rfl⟩ := r2
  exact iadd_int ⟨.int _, H, I.tok _, ⟨_, rfl⟩, h⟩
theorem i_sub {i j : Int} (h : Q (.int (i - j)) H) : Wop X (inplaceOp .Sub) (.int i) (.int j) H Q := by
  intro pins s σ v u I r1 r2
  obtain ⟨t, rfl⟩ := r1
  obtain ⟨t', rfl⟩ := r2
  exact isub_int ⟨.int _, H, I.tok _, ⟨_, rfl⟩, h⟩
theorem i_mulX {i j : Int} {a b : Nat} (ha : i.natAbs < 2 ^ a) (hb : j.natAbs < 2 ^ b) (hab : a + b ≤ 134217728) (h : Q (.int (i * j)) H) : Wop X (inplaceOp .Mult) (.int i) (.int j) H Q := by
  intro pins s σ v u I r1 r2
  obtain ⟨t, rfl⟩ := r1
  obtain ⟨t', rfl⟩ := r2
  exact imul_int (⟨.int _, H, I.tok _, ⟨_, rfl⟩, h⟩ : EP X pins σ Q _ _) (mulx_ok ha hb hab).ok
theorem s_par (cx : CxI P w K mg base k VL AL GL E X) {a b : Expr} {px py pt : Pos} {kt k2 pt2}
    (h : Wa X [a, b] σ H fun vs H1 => ∃ v w σ1 σ2, vs = [v, w] ∧ SetAt x v AL σ σ1 ∧ SetAt y w AL σ1 σ2 ∧ Wss X rest ⟨nx, rt, bk, ct⟩ σ2 H1) (hxy : x ≠ y) (hx : X.env.scope.names.lookup x = some .local) (hy : X.env.scope.names.lookup y = some .local)
    (hw : swappedStores [.Tuple [.Name x px, .Name y py] kt pt] (.Tuple [a, b] k2 pt2) X.env = pure (some [x, y]) := by kernel_rfl)
    (hs : swapsWithSole [.Tuple [.Name x px, .Name y py] kt pt] (.Tuple [a, b] k2 pt2) pos.line X.env = pure false := by kernel_rfl) {i j : Nat} (hi : AL[i]? = some (some x)) (hj : AL[j]? = some (some y)) : Wss X (.Assign [.Tuple [.Name x px, .Name y py] kt pt] (.Tuple [a, b] k2 pt2) pos :: rest) ⟨nx, rt, bk, ct⟩ σ H := by
  have q := cx.ok
  unfold okAll at q
  simp only [Bool.and_eq_true] at q
  obtain ⟨ci, _⟩ := slOk_of q.1.2 hi
  obtain ⟨cj, _⟩ := slOk_of q.1.2 hj
  have hij : i ≠ j := fun z => by
    subst z
    rw [ci] at cj
    exact hxy (Option.some.inj cj)
  refine s_cons (ofPS (ps_par cx.calm cx.nd ci cj hij hx hy paU hw hs) ?_)
  refine fun pos pins s I => thn (h pos pins s I) fun us s1 ⟨vs, H1, I1, r, v, w, σ1, σ2, e, s1', s2', q2⟩ => ⟨vs, H1, I1, r, v, w, e, ?_⟩
  obtain ⟨i', hi', e1⟩ := s1'.ix
  obtain ⟨j', hj', e2⟩ := s2'.ix
  obtain ⟨ci', _⟩ := slOk_of q.1.2 hi'
  obtain ⟨cj', _⟩ := slOk_of q.1.2 hj'
  have z1 : i' = i := nodup_ix cx.nd ci' ci
  have z2 : j' = j := nodup_ix cx.nd cj' cj
  subst z1; subst z2; subst e1; subst e2
  exact q2
/-! ### comprehensions -/
/-- what an element's turn asks -/
theorem w_lcG0 {N : List Str} {ns : List (Str × NameKind)} {scope : Scope} {elt : Expr} (own : List (Str × Nat)) (VL' AL' : List (Option Str)) (GL' : List Str) (cx : CxI P w K mg base k VL AL GL E X) (cn : CxN N ns X) (hb : blkB N ns scope own VL' AL' GL' = true)
    (h : Wi X tg iter σ H fun J H1 => ∃ n S Y, ItG J n S Y ∧ ∃ (Iv : Addr → Nat → List V → Hp → Prop), (∃ R M L, Kn R M L H1 ∧ ∀ D H2, Kn R ((D, Is (.lst [])) :: M) L H2 → Iv D 0 [] H2) ∧ (∀ D i acc H, i ≤ n → Iv D i acc H → S H) ∧
      (∀ D i acc H, i < n → Iv D i acc H → ∀ x H', Y i H x H' → ∀ X', CxI P w K mg base k VL' AL' GL' W0 X' → Wg X' tg x (wipe σ (own.map (·.2))) H' fun σ2 H2 => wipe σ2 (own.map (·.2)) = wipe σ (own.map (·.2)) ∧ ∀ X', CxI P w K mg base k VL' AL' GL' W0 X' → CxN N (relN scope.names ns) X' →
        We X' elt σ2 H2 fun y H4 => ∃ R M L, Kn R ((D, Is (.lst acc)) :: M) L H4 ∧ acc.length < 1000000 ∧ ∀ H5, Kn R ((D, Is (.lst (acc ++ [y]))) :: M) L H5 → Iv D (i + 1) (acc ++ [y]) H5) ∧ ∀ D acc H, Iv D n acc H → Q (.ref D) H)
    (hs : ∀ x, foldedSetIterable iter X.env x = pure x := by exact (fun _ => by kernel_rfl)) : We X (.ListComp elt [⟨tg, iter, [], 0⟩] scope pos) σ H Q := by
  have bc := @blk_cx P w K mg base k VL AL GL E X N ns scope own VL' AL' GL' cx cn hb
  refine ofPE (pe_lc (own := own) (g := fun v σ H Q => ∀ X', CxI P w K mg base k VL' AL' GL' W0 X' → Wg X' tg v σ H Q) (tt := tYes) (te := fun σ H Q => ∀ X', CxI P w K mg base k VL' AL' GL' W0 X' → CxN N (relN scope.names ns) X' → We X' elt σ H Q) cx.calm cx.nd piU ?_
    (fun s H C cl fp => ⟨fun pins s' σ H v u Q I r q => q _ (bc s _ C cl fp).1 pins s' u I r⟩) (fun _ _ _ _ _ => pts_nil) (fun s H C cl fp => ⟨fun pins s' σ H Q I q => q _ (bc s _ C cl fp).1 (bc s _ C cl fp).2 pins s' I⟩) hs) ?_
  · rw [cn.n]
    exact blk_ok hb cn.ns
  · refine fun pins s I => thn (h pins s I) fun v s1 q => thn q fun itv s2 q => ?_
    obtain ⟨it, fp, tn, J, H', e, I', T, t0, fpk, n, S, Y, W, Iv, ⟨R, M, L, kn, p0⟩, pS, step, fin⟩ := q
    refine ⟨it, fp, tn, J, H', e, I', T, t0, fpk, fun D hD => ⟨fun i m H => m = n - i ∧ i ≤ n ∧ ∃ acc, Iv D i acc H, ⟨n, by simp, Nat.zero_le _, [], p0 D _ (kn.new hD rfl)⟩, ?_⟩⟩
    rintro i m H ⟨rfl, hi, acc, p⟩
    by_cases hlt : i < n
    · refine .inr ⟨W.go i H hlt (pS D i acc H hi p), fun H => ∃ acc, Iv D (i + 1) acc H, fun H' p' => ⟨n - (i + 1), by omega, rfl, hlt, p'⟩, fun x H' y => ?_⟩
      have y2 := W.yld i H x H' hlt (pS D i acc H hi p) y
      intro X' cx'
      refine fun pins s u I r => thn (step D i acc _ hlt p x H' y2 X' cx' pins s u I r) fun _ s' ⟨σ2, H2, I2, e2, q⟩ => ⟨σ2, H2, I2, e2, ?_⟩
      refine yes_ ?_
      refine iteT ?_
      intro X2 cx2 cn2
      refine fun pins s I => thn (q X2 cx2 cn2 pins s I) fun u s' ⟨y, H4, I4, r4, R, M, L, kn, hl, z⟩ => ⟨y, H4, I4, r4, acc, kn.is .h, Nat.lt_trans hl (by decide), ?_⟩
      exact ⟨_, z _ (kn.write .h rfl)⟩
    · have e : i = n := by omega
      subst e
      exact .inl ⟨W.stop H (pS D _ acc H hi p), fin D acc H p⟩
theorem w_lcG1 {N : List Str} {ns : List (Str × NameKind)} {scope : Scope} {elt c : Expr} (own : List (Str × Nat)) (VL' AL' : List (Option Str)) (GL' : List Str) (cx : CxI P w K mg base k VL AL GL E X) (cn : CxN N ns X) (hb : blkB N ns scope own VL' AL' GL' = true)
    (h : Wi X tg iter σ H fun J H1 => ∃ n S Y, ItG J n S Y ∧ ∃ (Iv : Addr → Nat → List V → Hp → Prop), (∃ R M L, Kn R M L H1 ∧ ∀ D H2, Kn R ((D, Is (.lst [])) :: M) L H2 → Iv D 0 [] H2) ∧ (∀ D i acc H, i ≤ n → Iv D i acc H → S H) ∧
      (∀ D i acc H, i < n → Iv D i acc H → ∀ x H', Y i H x H' → ∀ X', CxI P w K mg base k VL' AL' GL' W0 X' → Wg X' tg x (wipe σ (own.map (·.2))) H' fun σ2 H2 => wipe σ2 (own.map (·.2)) = wipe σ (own.map (·.2)) ∧ ∀ X', CxI P w K mg base k VL' AL' GL' W0 X' → CxN N (relN scope.names ns) X' →
        Wt X' c σ2 H2 fun b H3 => if b = true then ∀ X', CxI P w K mg base k VL' AL' GL' W0 X' → CxN N (relN scope.names ns) X' → We X' elt σ2 H3 fun y H4 => ∃ R M L, Kn R ((D, Is (.lst acc)) :: M) L H4 ∧ acc.length < 1000000 ∧ ∀ H5, Kn R ((D, Is (.lst (acc ++ [y]))) :: M) L H5 → Iv D (i + 1) (acc ++ [y]) H5
          else Iv D (i + 1) acc H3) ∧ ∀ D acc H, Iv D n acc H → Q (.ref D) H)
    (hs : ∀ x, foldedSetIterable iter X.env x = pure x := by exact (fun _ => by kernel_rfl)) : We X (.ListComp elt [⟨tg, iter, [c], 0⟩] scope pos) σ H Q := by
  have bc := @blk_cx P w K mg base k VL AL GL E X N ns scope own VL' AL' GL' cx cn hb
  refine ofPE (pe_lc (own := own) (g := fun v σ H Q => ∀ X', CxI P w K mg base k VL' AL' GL' W0 X' → Wg X' tg v σ H Q) (tt := fun σ H Q => ∀ X', CxI P w K mg base k VL' AL' GL' W0 X' → CxN N (relN scope.names ns) X' → Wt X' c σ H Q) (te := fun σ H Q => ∀ X', CxI P w K mg base k VL' AL' GL' W0 X' → CxN N (relN scope.names ns) X' → We X' elt σ H Q) cx.calm cx.nd piU ?_
    (fun s H C cl fp => ⟨fun pins s' σ H v u Q I r q => q _ (bc s _ C cl fp).1 pins s' u I r⟩) (fun s H C cl fp => pts_one ⟨fun pins s' σ H Q I q => q _ (bc s _ C cl fp).1 (bc s _ C cl fp).2 pins s' I⟩) (fun s H C cl fp => ⟨fun pins s' σ H Q I q => q _ (bc s _ C cl fp).1 (bc s _ C cl fp).2 pins s' I⟩) hs) ?_
  · rw [cn.n]
    exact blk_ok hb cn.ns
  · refine fun pins s I => thn (h pins s I) fun v s1 q => thn q fun itv s2 q => ?_
    obtain ⟨it, fp, tn, J, H', e, I', T, t0, fpk, n, S, Y, W, Iv, ⟨R, M, L, kn, p0⟩, pS, step, fin⟩ := q
    refine ⟨it, fp, tn, J, H', e, I', T, t0, fpk, fun D hD => ⟨fun i m H => m = n - i ∧ i ≤ n ∧ ∃ acc, Iv D i acc H, ⟨n, by simp, Nat.zero_le _, [], p0 D _ (kn.new hD rfl)⟩, ?_⟩⟩
    rintro i m H ⟨rfl, hi, acc, p⟩
    by_cases hlt : i < n
    · refine .inr ⟨W.go i H hlt (pS D i acc H hi p), fun H => ∃ acc, Iv D (i + 1) acc H, fun H' p' => ⟨n - (i + 1), by omega, rfl, hlt, p'⟩, fun x H' y => ?_⟩
      have y2 := W.yld i H x H' hlt (pS D i acc H hi p) y
      intro X' cx'
      refine fun pins s u I r => thn (step D i acc _ hlt p x H' y2 X' cx' pins s u I r) fun _ s' ⟨σ2, H2, I2, e2, q⟩ => ⟨σ2, H2, I2, e2, ?_⟩
      intro X2 cx2 cn2
      refine fun pins s I => thn (q X2 cx2 cn2 pins s I) fun b s' ⟨H3, I3, q⟩ => ⟨H3, I3, ?_⟩
      cases b with
      | false =>
        rw [if_neg Bool.false_ne_true] at q ⊢
        exact ⟨acc, q⟩
      | true =>
        rw [if_pos rfl] at q ⊢
        intro X2 cx2 cn2
        refine fun pins s I => thn (q X2 cx2 cn2 pins s I) fun u s' ⟨y, H4, I4, r4, R, M, L, kn, hl, z⟩ => ⟨y, H4, I4, r4, acc, kn.is .h, Nat.lt_trans hl (by decide), ?_⟩
        exact ⟨_, z _ (kn.write .h rfl)⟩
    · have e : i = n := by omega
      subst e
      exact .inl ⟨W.stop H (pS D _ acc H hi p), fin D acc H p⟩
/-- {kx: vx for tg in iter} -/
theorem w_dcG0 {N : List Str} {ns : List (Str × NameKind)} {scope : Scope} {kx vx : Expr} (own : List (Str × Nat)) (VL' AL' : List (Option Str)) (GL' : List Str) (cx : CxI P w K mg base k VL AL GL E X) (cn : CxN N ns X) (hb : blkB N ns scope own VL' AL' GL' = true)
    (h : Wi X tg iter σ H fun J H1 => ∃ n S Y, ItG J n S Y ∧ ∃ (Iv : Addr → Nat → List (Key × V) → Hp → Prop), (∃ R M L, Kn R M L H1 ∧ ∀ D H2, Kn R ((D, Is (.dK [])) :: M) L H2 → Iv D 0 [] H2) ∧ (∀ D i acc H, i ≤ n → Iv D i acc H → S H) ∧
      (∀ D i acc H, i < n → Iv D i acc H → ∀ x H', Y i H x H' → ∀ X', CxI P w K mg base k VL' AL' GL' W0 X' → Wg X' tg x (wipe σ (own.map (·.2))) H' fun σ2 H2 => wipe σ2 (own.map (·.2)) = wipe σ (own.map (·.2)) ∧ ∀ X', CxI P w K mg base k VL' AL' GL' W0 X' → CxN N (relN scope.names ns) X' →
        We X' kx σ2 H2 fun y H3 => ∀ X', CxI P w K mg base k VL' AL' GL' W0 X' → CxN N (relN scope.names ns) X' → We X' vx σ2 H3 fun z H4 => ∃ R M L kk, Kn R ((D, Is (.dK acc)) :: M) L H4 ∧ acc.length < 1000000 ∧ y = kV kk ∧ ∀ H5, Kn R ((D, Is (.dK (putK acc kk z))) :: M) L H5 → Iv D (i + 1) (putK acc kk z) H5) ∧ ∀ D acc H, Iv D n acc H → Q (.ref D) H)
    (hs : ∀ x, foldedSetIterable iter X.env x = pure x := by exact (fun _ => by kernel_rfl)) : We X (.DictComp kx vx [⟨tg, iter, [], 0⟩] scope pos) σ H Q := by
  have bc := @blk_cx P w K mg base k VL AL GL E X N ns scope own VL' AL' GL' cx cn hb
  refine ofPE (pe_dc (own := own) (g := fun v σ H Q => ∀ X', CxI P w K mg base k VL' AL' GL' W0 X' → Wg X' tg v σ H Q) (tt := tYes) (tk := fun σ H Q => ∀ X', CxI P w K mg base k VL' AL' GL' W0 X' → CxN N (relN scope.names ns) X' → We X' kx σ H Q) (tv := fun σ H Q => ∀ X', CxI P w K mg base k VL' AL' GL' W0 X' → CxN N (relN scope.names ns) X' → We X' vx σ H Q) cx.calm cx.nd piU ?_
    (fun s H C cl fp => ⟨fun pins s' σ H v u Q I r q => q _ (bc s _ C cl fp).1 pins s' u I r⟩) (fun _ _ _ _ _ => pts_nil) (fun s H C cl fp => ⟨fun pins s' σ H Q I q => q _ (bc s _ C cl fp).1 (bc s _ C cl fp).2 pins s' I⟩) (fun s H C cl fp => ⟨fun pins s' σ H Q I q => q _ (bc s _ C cl fp).1 (bc s _ C cl fp).2 pins s' I⟩) hs) ?_
  · rw [cn.n]
    exact blk_ok hb cn.ns
  · refine fun pins s I => thn (h pins s I) fun v s1 q => thn q fun itv s2 q => ?_
    obtain ⟨it, fp, tn, J, H', e, I', T, t0, fpk, n, S, Y, W, Iv, ⟨R, M, L, kn, p0⟩, pS, step, fin⟩ := q
    refine ⟨it, fp, tn, J, H', e, I', T, t0, fpk, fun D hD => ⟨fun i m H => m = n - i ∧ i ≤ n ∧ ∃ acc, Iv D i acc H, ⟨n, by simp, Nat.zero_le _, [], p0 D _ (kn.new hD rfl)⟩, ?_⟩⟩
    rintro i m H ⟨rfl, hi, acc, p⟩
    by_cases hlt : i < n
    · refine .inr ⟨W.go i H hlt (pS D i acc H hi p), fun H => ∃ acc, Iv D (i + 1) acc H, fun H' p' => ⟨n - (i + 1), by omega, rfl, hlt, p'⟩, fun x H' y => ?_⟩
      have y2 := W.yld i H x H' hlt (pS D i acc H hi p) y
      intro X' cx'
      refine fun pins s u I r => thn (step D i acc _ hlt p x H' y2 X' cx' pins s u I r) fun _ s' ⟨σ2, H2, I2, e2, q⟩ => ⟨σ2, H2, I2, e2, ?_⟩
      refine yes_ ?_
      refine iteT ?_
      intro X2 cx2 cn2
      refine fun pins s I => thn (q X2 cx2 cn2 pins s I) fun u s' ⟨y, H3, I3, r3, q⟩ => ⟨y, H3, I3, r3, ?_⟩
      intro X2 cx2 cn2
      refine fun pins s I => thn (q X2 cx2 cn2 pins s I) fun u s' ⟨z, H4, I4, r4, R, M, L, kk, kn, hl, ey, zz⟩ => ⟨z, H4, I4, r4, acc, kk, ey, kn.is .h, Nat.lt_trans hl (by decide), ?_⟩
      exact ⟨_, zz _ (kn.write .h rfl)⟩
    · have e : i = n := by omega
      subst e
      exact .inl ⟨W.stop H (pS D _ acc H hi p), fin D acc H p⟩
end
end U

/-! U14: slices, concatenations, membership, facts with choices, texts joined. -/
namespace U
open PySem PySem.Spec L2
open PySem.W (findIn)
open PyProof.Rows hiding St
/-! ### t[::-1] -/
section
open PyProof.Rows HT
variable {prog : Program} {w : World} {A : Around} {E : Value → Shared → Prop} {s : Shared}
theorem adjust_rev (n : Nat) : Builtin.Slice.sliceAdjust none none (-1) (n : Int) = ((n : Int) - 1, -1) := by
  unfold Builtin.Slice.sliceAdjust
  simp
theorem places_rev (n : Nat) : Builtin.Slice.slicePlaces ((n : Int) - 1) (-1) (-1) = n := by
  unfold Builtin.Slice.slicePlaces
  have h1 : ¬ ((-1 : Int) > 0) := by omega
  simp only [h1, if_false]
  split
  · have e : ((n : Int) - 1 - -1 - 1) / (- -1) = (n : Int) - 1 := by
      have e2 : (- -1 : Int) = 1 := by decide
      rw [e2, Int.ediv_one]; omega
    rw [e]; omega
  · omega
theorem applied_rev {sl : Addr} {t : Tok} {n : Nat} {Q : Int × Int × Nat → Shared → Prop} (hs : s.heap.IsSliceOf sl .none .none (.int (-1) t)) (h : Q ((n : Int) - 1, -1, n) s) : wpAny (model prog w) A (Builtin.Slice.sliceApplied (.ref sl) (pure (n : Int))) Q E s := by
  obtain ⟨os, hos, hcs, hds⟩ := id hs
  unfold Builtin.Slice.sliceApplied Builtin.Slice.sliceFields
  refine wpAny_bind (wpAny_bind (wpAny_field hos hds (x := .none) rfl (wpAny_bind (wpAny_field hos hds (x := .none) rfl (wpAny_bind (wpAny_field hos hds (x := .int (-1) t) rfl (wpAny_pure ?_)))))))
  refine wpAny_bind (slicePart_int ?_)
  show wpAny _ _ (if ((-1 : Int) == 0) = true then _ else _) _ _ s
  rw [if_neg (by decide)]
  refine wpAny_bind (slicePart_none (wpAny_bind (slicePart_none (wpAny_bind (wpAny_pure ?_)))))
  show wpAny _ _ (match Builtin.Slice.sliceAdjust none none (-1) (n : Int) with | (lo, hi) => pure (lo, (-1 : Int), Builtin.Slice.slicePlaces lo hi (-1))) _ _ s
  rw [adjust_rev n]
  show wpAny _ _ (pure ((n : Int) - 1, (-1 : Int), Builtin.Slice.slicePlaces ((n : Int) - 1) (-1) (-1))) _ _ s
  rw [places_rev]
  exact wpAny_pure h
theorem fm_congr {α β : Type} {f g : α → Option β} : ∀ {l : List α}, (∀ x ∈ l, f x = g x) → l.filterMap f = l.filterMap g
  | [], _ => rfl
  | x :: l, h => by
    rw [List.filterMap_cons, List.filterMap_cons, h x List.mem_cons_self, fm_congr (l := l) fun y hy => h y (List.mem_cons_of_mem _ hy)]
theorem pick_rev (xs : Array Value) : ((List.range xs.size).filterMap fun (m : Nat) => xs[(((xs.size : Int) - 1) + (m : Int) * -1).toNat]?).toArray = xs.toList.reverse.toArray := by
  congr 1
  have e : ∀ m ∈ List.range xs.size, xs[(((xs.size : Int) - 1) + (m : Int) * -1).toNat]? = xs[xs.size - 1 - m]? := by
    intro m hm
    have : (((xs.size : Int) - 1) + (m : Int) * -1).toNat = xs.size - 1 - m := by omega
    rw [this]
  have z : (List.range xs.size).filterMap (fun (m : Nat) => xs[(((xs.size : Int) - 1) + (m : Int) * -1).toNat]?) = ((List.range xs.size).map fun k => xs.size - 1 - k).filterMap (fun i => xs[i]?) := by
    rw [List.filterMap_map]
    exact fm_congr e
  rw [z, PySem.W.krv_range, List.filterMap_reverse, PySem.W.krv_all]
theorem getItem_tuple_rev {t sl : Addr} {items : Array Value} {tk : Tok} {Q : Value → Shared → Prop} (ht : IsTup s.heap t items) (hs : s.heap.IsSliceOf sl .none .none (.int (-1) tk))
    (h : Q (.ref s.heap.objs.size) { s with heap := s.heap.push { cls := .type "tuple", data := .seq items.toList.reverse.toArray } })
    (hsz : items.size ≤ sizeLine) : wpAny (model prog w) A (getItem (.ref t) (.ref sl)) Q E s := by
  have htake : sizeOk (.seq items.toList.reverse.toArray) := by
    show items.toList.reverse.toArray.size ≤ sizeLine
    rw [List.size_toArray, List.length_reverse, Array.length_toList]
    exact hsz
  obtain ⟨os, hos, hcs, hds⟩ := id hs
  have hTs : s.TypeIs (.ref sl) "slice" := ⟨os, hos, hcs⟩
  unfold getItem
  try with_reducible refine wpAny_holding ?_
  first | refine wpAny_bind (wpAny_pure ?_) | skip
  refine wpAny_bind (wpAny_sequenceKey ht.typeIs (by decide) ?_)
  refine wpAny_bind (wpAny_callSpecial?_slot (name := Str.ofString "__getitem__") ht.typeIs PyProof.Rows.slot_tuple_getitem
    (wpAny_call_entry PyProof.Rows.slot_tuple_getitem ht.typeIs entry_tuple_getitem ?_ (args_tuple_getitem _ _)))
  show wpAny _ _ (Builtin.Tuple.tupleItemsOf (.ref t) >>= _) _ _ s
  refine wpAny_bind (tupleItemsOf_ ht ?_)
  refine wpAny_bind (wpAny_typeOf hTs ?_)
  rw [if_pos (by decide)]
  refine wpAny_bind (applied_rev hs ?_)
  have hno : ¬ (((((items.size : Int) - 1) == 0) && ((-1 : Int) == 1) && (items.size == items.size)) = true) := by
    have z : ((-1 : Int) == 1) = false := by decide
    rw [z]
    simp
  show wpAny _ _ (if ((((items.size : Int) - 1) == 0) && ((-1 : Int) == 1) && (items.size == items.size)) = true then _ else _) _ _ s
  rw [if_neg hno, pick_rev]
  first
    | exact wpAny_bind (m := Builtin.Tuple.tupleExact _) (wpAny_newObj_type (wpAny_pure ⟨_, rfl, wpAny_pure h⟩) htake)
    | exact wpAny_bind (m := Builtin.Tuple.tupleExact _) (wpAny_newObj_type (wpAny_bind (wpAny_pure (wpAny_pure ⟨_, rfl, wpAny_pure h⟩))) htake)
    | exact wpAny_bind (wpAny_bind (m := Builtin.Tuple.tupleExact _) (wpAny_newObj_type (wpAny_pure (wpAny_pure ⟨_, rfl, wpAny_pure h⟩)) htake))
    | exact wpAny_bind (wpAny_bind (m := Builtin.Tuple.tupleExact _) (wpAny_newObj_type (wpAny_pure ⟨_, rfl, wpAny_pure h⟩) htake))
end
section
variable {P : Program} {w : World} {K : PySem.W.Frag} {mg : Str → Option Value} {base : Heap} {k : Nat} {VL AL : List (Option Str)} {GL : List Str} {E : WX} {X : Cx} {σ : St} {H : Hp} {Q : VK} {pos pos' p p1 p2 p3 tpos : Pos} {tg iter e : Expr} {nx : St → Hp → Prop} {rt : VK} {bk ct : St → Hp → Prop} {rest body : List Stmt} {x y : Str} {v : V}
variable {R B : Hp → Prop} {M M' : List (Addr × (HO → Prop))} {L : List (Addr × Obj)} {a b : Addr} {xs ys : List V}
theorem kn_tup {q : Addr} (kn : Kn R M L H) (hq : H q = none) : Kn (Cj (Ex q (.tup xs)) R) M L (upd H q (.tup xs)) := kn.newX hq (fun n => by rcases n with ⟨_, e⟩ | ⟨_, e⟩ <;> cases e) fun _ _ e => by cases e
theorem w_revT (cx : CxI P w K mg base k VL AL GL E X) {kk : Nat} (h : We X e σ H fun x H1 => ∃ a xs R M L, x = .ref a ∧ Kn R M L H1 ∧ Ent R (fun J => SqT K J a xs) ∧ ∀ q H', Kn (Cj (Ex q (.tup xs.reverse)) R) M L H' → Q (.ref q) H') :
    We X (.Subscript e (.Slice none none (some (.UnaryOp .USub (.Constant (.int 1) kk p1) p2)) p3) pos) σ H Q := by
  have e3 := cx.eK
  subst e3
  intro pins s I
  refine Subscript_ (thn (h pins s I) fun v s1 ⟨x, H1, I1, r1, q1⟩ => ?_)
  obtain ⟨a, xs, R, M, L, ex, kn, hx, q⟩ := q1
  subst ex
  cases r1
  have hst : PO X (some (.UnaryOp .USub (.Constant (.int 1) kk p1) p2)) (tPart (tUn (rU fun i => .int (-i)) (tC (.int 1)))) := po_some (pe_un un_neg pe_int)
  refine wpAny_Slice ?_
  rw [evalPart_none]
  refine wpAny_pure ?_
  refine wpAny_pure ?_
  refine thn (hst.run pins s1 σ H1 (fun o H4 => o = some (-1) ∧ H4 = H1) I1 ⟨1, rfl, -1, rfl, rfl, rfl⟩) fun vs s4 ⟨o, H4, I4, ps, eo, e4⟩ => ?_
  subst eo e4
  obtain ⟨t, rfl⟩ : ∃ t, vs = .int (-1) t := by cases ps; exact ⟨_, rfl⟩
  have I5 : Inv X pins σ H4 { s4 with heap := s4.heap.push { cls := .type "slice", data := .fields #[.none, .none, .int (-1) t] } } := I4.kept (t' := s4.toks) fun b ob q => Heap.get?_push_of_some _ q
  obtain ⟨its, r, ht, hz⟩ := I5.tuple (kn.get hx)
  have hlen := r.length
  show wpAny (model X.prog X.w) X.A (subscriptTail e (.Slice none none (some (.UnaryOp .USub (.Constant (.int 1) kk p1) p2)) p3) (.ref a) (.ref s4.heap.objs.size)) (EP X pins σ Q) X.xe { s4 with heap := s4.heap.push { cls := .type "slice", data := .fields #[.none, .none, .int (-1) t] } }
  refine tail_any (ops := [.ref a, .ref s4.heap.objs.size]) ht.typeIs (PyProof.Rows.slot_tuple_getitem.lookup) ?_ (by with_unfolding_all rfl)
  refine getItem_tuple_rev ht (Heap.IsSliceOf.new _ .none .none (.int (-1) t)) ?_ (by rw [List.size_toArray]; omega)
  refine ⟨.ref _, _, I5.laid (t' := s4.toks) (o := .tup xs.reverse) (fun b ob q => Heap.get?_push_of_some _ q) (Nat.le_refl _) ?_, rfl, q _ _ (kn_tup kn (I5.hok.fresh (Nat.le_refl _)))⟩
  exact ⟨by rw [List.length_reverse]; exact hz, _, r.reverse, ⟨_, Heap.get?_push_size _ rfl, rfl, _, rfl⟩⟩
/-- xs[::-1] of a list -/
theorem w_revL (cx : CxI P w K mg base k VL AL GL E X) {kk : Nat} (h : We X e σ H fun x H1 => ∃ a xs R M L, x = .ref a ∧ Kn R M L H1 ∧ SqL K H1 a xs ∧ ∀ q H', Kn R ((q, Is (.lst xs.reverse)) :: M) L H' → Q (.ref q) H') :
    We X (.Subscript e (.Slice none none (some (.UnaryOp .USub (.Constant (.int 1) kk p1) p2)) p3) pos) σ H Q := by
  have e3 := cx.eK
  subst e3
  exact ofPE (pe_revL peU) fun pins s I => thn (h pins s I) fun v s1 ⟨x, H1, I1, r, a, xs, R, M, L, ex, kn, hx, q⟩ => ⟨x, H1, I1, r, a, xs, ex, hx, fun q' hq => q q' _ (kn.new hq rfl)⟩
/-! ### slices -/
def Wpo (X : Cx) (e : Option Expr) (σ : St) (H : Hp) (Q : Option Int → Hp → Prop) : Prop := match e with
  | none => Q none H
  | some e => We X e σ H fun x H1 => ∃ i, x = .int i ∧ Q (some i) H1
theorem poU {lo : Option Expr} : PO X lo (Wpo X lo) := by
  cases lo with
  | none => exact po_none
  | some e => exact po_some peU
theorem wpo_none {Q : Option Int → Hp → Prop} (h : Q none H) : Wpo X none σ H Q := h
theorem wpo_some {Q : Option Int → Hp → Prop} (h : We X e σ H fun x H1 => ∃ i, x = .int i ∧ Q (some i) H1) : Wpo X (some e) σ H Q := h
theorem cutV_all {lo hi : Option Int} (h : HT.sIx xs.length 0 lo = 0 ∧ HT.sIx xs.length xs.length hi = xs.length) : cutV xs lo hi = xs := by
  unfold cutV
  rw [h.1, h.2]
  simp
/-- t[lo:hi] of a tuple -/
theorem w_slT (cx : CxI P w K mg base k VL AL GL E X) {lo hi : Option Expr} (h : We X e σ H fun x H1 => Wpo X lo σ H1 fun l H2 => Wpo X hi σ H2 fun u H3 => ∃ a xs R M L, x = .ref a ∧ Kn R M L H3 ∧ Ent R (fun J => SqT K J a xs) ∧
    ∀ q B H', (∀ J, B J → SqT K J q (cutV xs l u)) → Kn (Cj B R) M L H' → Q (.ref q) H') : We X (.Subscript e (.Slice lo hi none p2) pos) σ H Q := by
  have e3 := cx.eK
  subst e3
  refine ofPE (pe_slice sl_tupA peU poU poU) ?_
  refine fun pins s I => thn (h pins s I) fun v s1 ⟨x, H1, I1, r, q⟩ => ⟨x, H1, I1, r, ?_⟩
  have tail : ∀ l u H3, (∃ a xs R M L, x = .ref a ∧ Kn R M L H3 ∧ Ent R (fun J => SqT X.K J a xs) ∧ ∀ q B H', (∀ J, B J → SqT X.K J q (cutV xs l u)) → Kn (Cj B R) M L H' → Q (.ref q) H') → rSlA X.K x l u H3 Q := by
    rintro l u H3 ⟨a, xs, R, M, L, ex, kn, hx, q⟩
    refine ⟨a, xs, ex, kn.get hx, fun hw => ?_, fun _ p hp => q p _ _ (fun J z => .inl (.inl z)) (kn_tup kn hp)⟩
    have e := cutV_all hw
    refine q a (fun J => SqT X.K J a xs) H3 (fun J z => by rw [e]; exact z) (kn.add hx)
  cases lo with
  | none =>
    cases hi with
    | none => exact tail _ _ _ q
    | some eh => exact fun pins s I => thn (q pins s I) fun v s1 ⟨y, H2, I2, r2, j, ej, q2⟩ => ⟨y, H2, I2, r2, j, ej, tail _ _ _ q2⟩
  | some el =>
    cases hi with
    | none => exact fun pins s I => thn (q pins s I) fun v s1 ⟨y, H2, I2, r2, j, ej, q2⟩ => ⟨y, H2, I2, r2, j, ej, tail _ _ _ q2⟩
    | some eh => exact fun pins s I => thn (q pins s I) fun v s1 ⟨y, H2, I2, r2, j, ej, q2⟩ => ⟨y, H2, I2, r2, j, ej, fun pins s I => thn (q2 pins s I) fun v s1 ⟨y, H2, I2, r2, j, ej, q3⟩ => ⟨y, H2, I2, r2, j, ej, tail _ _ _ q3⟩⟩
/-- xs[lo:hi] of a list -/
theorem w_slL (cx : CxI P w K mg base k VL AL GL E X) {lo hi : Option Expr} (h : We X e σ H fun x H1 => Wpo X lo σ H1 fun l H2 => Wpo X hi σ H2 fun u H3 => ∃ a xs R M L, x = .ref a ∧ Kn R M L H3 ∧ SqL K H3 a xs ∧
    ∀ q H', Kn R ((q, Is (.lst (cutV xs l u))) :: M) L H' → Q (.ref q) H') : We X (.Subscript e (.Slice lo hi none p2) pos) σ H Q := by
  have e3 := cx.eK
  subst e3
  refine ofPE (pe_slice sl_list peU poU poU) ?_
  refine fun pins s I => thn (h pins s I) fun v s1 ⟨x, H1, I1, r, q⟩ => ⟨x, H1, I1, r, ?_⟩
  have tail : ∀ l u H3, (∃ a xs R M L, x = .ref a ∧ Kn R M L H3 ∧ SqL X.K H3 a xs ∧ ∀ q H', Kn R ((q, Is (.lst (cutV xs l u))) :: M) L H' → Q (.ref q) H') → rSlL X.K x l u H3 Q := by
    rintro l u H3 ⟨a, xs, R, M, L, ex, kn, hx, q⟩
    exact ⟨a, xs, ex, hx, fun p hp => q p _ (kn.new hp rfl)⟩
  cases lo with
  | none =>
    cases hi with
    | none => exact tail _ _ _ q
    | some eh => exact fun pins s I => thn (q pins s I) fun v s1 ⟨y, H2, I2, r2, j, ej, q2⟩ => ⟨y, H2, I2, r2, j, ej, tail _ _ _ q2⟩
  | some el =>
    cases hi with
    | none => exact fun pins s I => thn (q pins s I) fun v s1 ⟨y, H2, I2, r2, j, ej, q2⟩ => ⟨y, H2, I2, r2, j, ej, tail _ _ _ q2⟩
    | some eh => exact fun pins s I => thn (q pins s I) fun v s1 ⟨y, H2, I2, r2, j, ej, q2⟩ => ⟨y, H2, I2, r2, j, ej, fun pins s I => thn (q2 pins s I) fun v s1 ⟨y, H2, I2, r2, j, ej, q3⟩ => ⟨y, H2, I2, r2, j, ej, tail _ _ _ q3⟩⟩
/-- tuple + tuple -/
theorem o_catT (cx : CxI P w K mg base k VL AL GL E X) (kn : Kn R M L H) (h1 : Ent R fun J => SqT K J a xs) (h2 : Ent R fun J => SqT K J b ys) (hl : xs.length + ys.length ≤ 1000000) (h : ∀ q B H', (∀ J, B J → SqT K J q (xs ++ ys)) → Kn (Cj B R) M L H' → Q (.ref q) H') : Wop X (binaryOp .Add) (.ref a) (.ref b) H Q := by
  have e3 := cx.eK
  subst e3
  refine ofOp op_catA ⟨a, b, xs, ys, rfl, rfl, kn.get h1, kn.get h2, Nat.le_trans hl (by decide), fun e => ?_, fun _ e => ?_, fun _ _ p hp => h p _ _ (fun J z => .inl (.inl z)) (kn_tup kn hp)⟩
  · subst e
    exact h b _ H (fun J z => z) (kn.add h2)
  · subst e
    exact h a _ H (fun J z => by rw [List.append_nil]; exact z) (kn.add h1)
/-! ### in -/
theorem o_inQ (cx : CxI P w K mg base k VL AL GL E X) (hq : SqL K H a xs ∨ SqT K H a xs) (fx : flatV v = true) (fs : xs.all flatV = true) (h : Q (.bl (inV v xs)) H) : Wop X (compareOp .In) v (.ref a) H Q := by
  have e3 := cx.eK
  subst e3
  exact ofOp op_in_seq ⟨a, xs, rfl, hq, fx, by simpa using fs, by simpa using h⟩
theorem o_notInQ (cx : CxI P w K mg base k VL AL GL E X) (hq : SqL K H a xs ∨ SqT K H a xs) (fx : flatV v = true) (fs : xs.all flatV = true) (h : Q (.bl (!inV v xs)) H) : Wop X (compareOp .NotIn) v (.ref a) H Q := by
  have e3 := cx.eK
  subst e3
  exact ofOp op_notIn_seq ⟨a, xs, rfl, hq, fx, by simpa using fs, by simpa using h⟩
/-! ### facts with a choice -/
/-- A stays true as more is known -/
def Mono (A : Hp → Prop) : Prop := ∀ I J, (∀ b o u, I b = some (.frz o u) → ∃ xs, u = .lst xs) → Sub I J → A I → A J
theorem Kn.openE {α : Type} {A : α → Hp → Prop} (kn : Kn R M L H) (en : Ent R fun J => ∃ x, A x J) (mo : ∀ x, Mono (A x)) : ∃ x, Kn (Cj (A x) R) M L H := by
  obtain ⟨I, kn⟩ := kn
  obtain ⟨x, hx⟩ := en I (kn.good I (Sub.refl I))
  exact ⟨x, I, fun J s => ⟨mo x I J kn.frz s hx, kn.good J s⟩, kn.here, kn.frz, kn.own, kn.nd, kn.lk, kn.lnd⟩
theorem mono_ex {q : Addr} {o : HO} (nf : ¬ Nfz o) : Mono (Ex q o) := fun I J _ s h => by
  rcases s q o h with z | ⟨n, _⟩
  · exact z
  · exact absurd n nf
theorem mono_at {q : Addr} {kvs : List (Key × V)} : Mono (At q (.dK kvs)) := fun I J f s h => by
  rcases h with h | ⟨u, h⟩
  · exact s.rd h
  · obtain ⟨xs, z⟩ := f _ _ _ h
    cases z
theorem mono_cj {A B : Hp → Prop} (a : Mono A) (b : Mono B) : Mono (Cj A B) := fun I J f s h => ⟨a I J f s h.1, b I J f s h.2⟩
theorem mono_exE {α : Type} {A : α → Hp → Prop} (m : ∀ x, Mono (A x)) : Mono (fun J => ∃ x, A x J) := fun I J f s ⟨x, h⟩ => ⟨x, m x I J f s h⟩
theorem mono_true {p : Prop} : Mono (fun _ => p) := fun _ _ _ _ h => h
theorem mono_and {A B : Hp → Prop} (a : Mono A) (b : Mono B) : Mono (fun J => A J ∧ B J) := fun I J f s h => ⟨a I J f s h.1, b I J f s h.2⟩
theorem mono_tup {q : Addr} {xs : List V} : Mono (fun J => J q = some (.tup xs)) := mono_ex (o := .tup xs) fun n => by rcases n with ⟨_, e⟩ | ⟨_, e⟩ <;> cases e
theorem mono_ins {q C dx : Addr} {fs : List (Str × V)} : Mono (fun J => J q = some (.ins C dx fs)) := mono_ex (o := .ins C dx fs) fun n => by rcases n with ⟨_, e⟩ | ⟨_, e⟩ <;> cases e
/-! ### texts joined -/
theorem w_join (cx : CxI P w K mg base k VL AL GL E X) {o : Expr} {apos cpos : Pos} (h : We X o σ H fun x H1 => ∃ sep : Str, x = .str sep ∧ We X e σ H1 fun y H2 => ∃ (p : Addr) (zs : List Str), y = .ref p ∧ (SqL K H2 p (zs.map V.str) ∨ SqT K H2 p (zs.map V.str)) ∧ (zs.map (·.length)).sum + zs.length * sep.length ≤ 16777216 ∧ Q (.str (Txt.join sep zs)) H2)
    (hbase : attributeBase o "join" X.env (eval o X.env) = eval o X.env := by kernel_rfl)
    (hfew : ((backTo cpos (starEach [e] X.env)).all (fun x => !x.1) && (backToKw cpos (keywordEach [] X.env)).all (fun x => x.1.isSome)
      && decide ([e].length + ([] : List Keyword).length + (if ([] : List Keyword).isEmpty then 0 else 1) < 30)) = true := by kernel_rfl)
    (hline : (apos.endLine == cpos.line) = true := by kernel_rfl) (hs : starEach [e] X.env = (false, eval e X.env) :: starEach [] X.env := by kernel_rfl) (hplain : (backTo cpos (starEach [] X.env)).any (·.1) = false := by kernel_rfl) :
    We X (.Call (.Attribute o "join" apos) [e] [] cpos) σ H Q := by
  have e3 := cx.eK
  subst e3
  refine ofPE (pe_bm PySem.F.plainAttrs_str PySem.F.slot_str_join PySem.F.type_str_join mt_join peU (pa_cons peU pa_nil hs) hbase hfew hline hs hplain) ?_
  refine fun pins s I => thn (h pins s I) fun v s1 ⟨x, H1, I1, r1, sep, ex, q⟩ => ⟨x, H1, I1, r1, by rw [ex]; rfl, ?_⟩
  exact fun pins s I => thn (q pins s I) fun v s1 ⟨y, H2, I2, r2, p, zs, ey, hp, hl, z⟩ => ⟨y, H2, I2, r2, sep, p, zs, ex, by rw [ey], hp, hl, z⟩
end
end U

/-! U15: comprehensions that map. -/
namespace U
open PySem PySem.Spec L2
open PySem.W (findIn)
open PyProof.Rows hiding St
theorem sw_two {x y : Str} {px py pt pt2 : Pos} {kt k2 : Nat} {a b : Expr} {env : Env} (hb : env.blockKind = .function) (hx : env.kindOf x = some .local) (hy : env.kindOf y = some .local) (hl : (py.line == px.line) = true) (hxy : [x, y].eraseDups.length = 2)
    (h1 : ([a, b].any fun | .Starred .. => true | _ => false) = false) (h2 : [a, b].all (foldedForSure 8) = false) (h3 : [a, b].all (constantsAlone 8) = false) :
    swappedStores [.Tuple [.Name x px, .Name y py] kt pt] (.Tuple [a, b] k2 pt2) env = pure (some [x, y]) := by
  have hl' : py.line = px.line := beq_iff_eq.mp hl
  have e : ([.Name x px, .Name y py] : List Expr).filterMap (fun | .Name id pos => if env.kindOf id == some .local && pos.line == px.line then some id else none | _ => none) = [x, y] := by
    simp [hx, hy, hl']
  unfold swappedStores
  simp only [h1, h2, h3, hb, List.length_cons, List.length_nil]
  simp only [List.head?_cons, Option.map_some, Option.getD_some, Expr.pos]
  simp [hx, hy, hl', hxy]
  intro h
  exfalso
  simp only [List.any_cons, List.any_nil, Bool.or_false, Bool.or_eq_false_iff] at h1
  rcases h with h | h
  · exact Bool.false_ne_true (h1.1.symm.trans h)
  · exact Bool.false_ne_true (h1.2.symm.trans h)
section
variable {P : Program} {w : World} {K : PySem.W.Frag} {mg : Str → Option Value} {base : Heap} {k : Nat} {VL AL : List (Option Str)} {GL : List Str} {E : WX} {X : Cx} {σ : St} {H : Hp} {Q : VK} {pos : Pos} {tg iter : Expr}
theorem range_getD {α β : Type} {xs : List α} {d : α} {g : α → β} : (List.range xs.length).map (fun i => g (xs.getD i d)) = xs.map g := by
  apply List.ext_getElem?
  intro i
  by_cases h : i < xs.length
  · simp [h]
  · simp [h]
/-- what [elt for tg in iter] asks -/
def LcH0 (P : Program) (w : World) (K : PySem.W.Frag) (mg : Str → Option Value) (base : Heap) (k : Nat) (N : List Str) (ns : List (Str × NameKind)) (scope : Scope) (own : List (Str × Nat)) (VL' AL' : List (Option Str)) (GL' : List Str) (X : Cx) (tg iter elt : Expr) (σ : St) (H : Hp) (Q : VK) : Prop :=
  Wi X tg iter σ H fun J H1 => ∃ n S Y, ItG J n S Y ∧ ∃ (Iv : Addr → Nat → List V → Hp → Prop), (∃ R M L, Kn R M L H1 ∧ ∀ D H2, Kn R ((D, Is (.lst [])) :: M) L H2 → Iv D 0 [] H2) ∧ (∀ D i acc H, i ≤ n → Iv D i acc H → S H) ∧
      (∀ D i acc H, i < n → Iv D i acc H → ∀ x H', Y i H x H' → ∀ X', CxI P w K mg base k VL' AL' GL' W0 X' → Wg X' tg x (wipe σ (own.map (·.2))) H' fun σ2 H2 => wipe σ2 (own.map (·.2)) = wipe σ (own.map (·.2)) ∧ ∀ X', CxI P w K mg base k VL' AL' GL' W0 X' → CxN N (relN scope.names ns) X' →
        We X' elt σ2 H2 fun y H4 => ∃ R M L, Kn R ((D, Is (.lst acc)) :: M) L H4 ∧ acc.length < 1000000 ∧ ∀ H5, Kn R ((D, Is (.lst (acc ++ [y]))) :: M) L H5 → Iv D (i + 1) (acc ++ [y]) H5) ∧ ∀ D acc H, Iv D n acc H → Q (.ref D) H
/-- what [elt for tg in iter if c] asks -/
def LcH1 (P : Program) (w : World) (K : PySem.W.Frag) (mg : Str → Option Value) (base : Heap) (k : Nat) (N : List Str) (ns : List (Str × NameKind)) (scope : Scope) (own : List (Str × Nat)) (VL' AL' : List (Option Str)) (GL' : List Str) (X : Cx) (tg iter elt c : Expr) (σ : St) (H : Hp) (Q : VK) : Prop :=
  Wi X tg iter σ H fun J H1 => ∃ n S Y, ItG J n S Y ∧ ∃ (Iv : Addr → Nat → List V → Hp → Prop), (∃ R M L, Kn R M L H1 ∧ ∀ D H2, Kn R ((D, Is (.lst [])) :: M) L H2 → Iv D 0 [] H2) ∧ (∀ D i acc H, i ≤ n → Iv D i acc H → S H) ∧
      (∀ D i acc H, i < n → Iv D i acc H → ∀ x H', Y i H x H' → ∀ X', CxI P w K mg base k VL' AL' GL' W0 X' → Wg X' tg x (wipe σ (own.map (·.2))) H' fun σ2 H2 => wipe σ2 (own.map (·.2)) = wipe σ (own.map (·.2)) ∧ ∀ X', CxI P w K mg base k VL' AL' GL' W0 X' → CxN N (relN scope.names ns) X' →
        Wt X' c σ2 H2 fun b H3 => if b = true then ∀ X', CxI P w K mg base k VL' AL' GL' W0 X' → CxN N (relN scope.names ns) X' → We X' elt σ2 H3 fun y H4 => ∃ R M L, Kn R ((D, Is (.lst acc)) :: M) L H4 ∧ acc.length < 1000000 ∧ ∀ H5, Kn R ((D, Is (.lst (acc ++ [y]))) :: M) L H5 → Iv D (i + 1) (acc ++ [y]) H5
          else Iv D (i + 1) acc H3) ∧ ∀ D acc H, Iv D n acc H → Q (.ref D) H
section
variable {N : List Str} {ns : List (Str × NameKind)} {scope : Scope} {elt c : Expr} {own : List (Str × Nat)} {VL' AL' : List (Option Str)} {GL' : List Str}
theorem lc_in0 (h : LcH0 P w K mg base k N ns scope own VL' AL' GL' X tg iter elt σ H Q) : tLc (Wi X tg iter) (fun v σ H Q => ∀ X', CxI P w K mg base k VL' AL' GL' W0 X' → Wg X' tg v σ H Q) tYes (fun σ H Q => ∀ X', CxI P w K mg base k VL' AL' GL' W0 X' → CxN N (relN scope.names ns) X' → We X' elt σ H Q) (own.map (·.2)) σ H Q := by
  refine fun pins s I => thn (h pins s I) fun v s1 q => thn q fun itv s2 q => ?_
  obtain ⟨it, fp, tn, J, H', e, I', T, t0, fpk, n, S, Y, W, Iv, ⟨R, M, L, kn, p0⟩, pS, step, fin⟩ := q
  refine ⟨it, fp, tn, J, H', e, I', T, t0, fpk, fun D hD => ⟨fun i m H => m = n - i ∧ i ≤ n ∧ ∃ acc, Iv D i acc H, ⟨n, by simp, Nat.zero_le _, [], p0 D _ (kn.new hD rfl)⟩, ?_⟩⟩
  rintro i m H ⟨rfl, hi, acc, p⟩
  by_cases hlt : i < n
  · refine .inr ⟨W.go i H hlt (pS D i acc H hi p), fun H => ∃ acc, Iv D (i + 1) acc H, fun H' p' => ⟨n - (i + 1), by omega, rfl, hlt, p'⟩, fun x H' y => ?_⟩
    have y2 := W.yld i H x H' hlt (pS D i acc H hi p) y
    intro X' cx'
    refine fun pins s u I r => thn (step D i acc _ hlt p x H' y2 X' cx' pins s u I r) fun _ s' ⟨σ2, H2, I2, e2, q⟩ => ⟨σ2, H2, I2, e2, ?_⟩
    refine yes_ ?_
    refine iteT ?_
    intro X2 cx2 cn2
    refine fun pins s I => thn (q X2 cx2 cn2 pins s I) fun u s' ⟨y, H4, I4, r4, R, M, L, kn, hl, z⟩ => ⟨y, H4, I4, r4, acc, kn.is .h, Nat.lt_trans hl (by decide), ?_⟩
    exact ⟨_, z _ (kn.write .h rfl)⟩
  · have e : i = n := by omega
    subst e
    exact .inl ⟨W.stop H (pS D _ acc H hi p), fin D acc H p⟩
theorem lc_in1 (h : LcH1 P w K mg base k N ns scope own VL' AL' GL' X tg iter elt c σ H Q) : tLc (Wi X tg iter) (fun v σ H Q => ∀ X', CxI P w K mg base k VL' AL' GL' W0 X' → Wg X' tg v σ H Q) (fun σ H Q => ∀ X', CxI P w K mg base k VL' AL' GL' W0 X' → CxN N (relN scope.names ns) X' → Wt X' c σ H Q) (fun σ H Q => ∀ X', CxI P w K mg base k VL' AL' GL' W0 X' → CxN N (relN scope.names ns) X' → We X' elt σ H Q) (own.map (·.2)) σ H Q := by
  refine fun pins s I => thn (h pins s I) fun v s1 q => thn q fun itv s2 q => ?_
  obtain ⟨it, fp, tn, J, H', e, I', T, t0, fpk, n, S, Y, W, Iv, ⟨R, M, L, kn, p0⟩, pS, step, fin⟩ := q
  refine ⟨it, fp, tn, J, H', e, I', T, t0, fpk, fun D hD => ⟨fun i m H => m = n - i ∧ i ≤ n ∧ ∃ acc, Iv D i acc H, ⟨n, by simp, Nat.zero_le _, [], p0 D _ (kn.new hD rfl)⟩, ?_⟩⟩
  rintro i m H ⟨rfl, hi, acc, p⟩
  by_cases hlt : i < n
  · refine .inr ⟨W.go i H hlt (pS D i acc H hi p), fun H => ∃ acc, Iv D (i + 1) acc H, fun H' p' => ⟨n - (i + 1), by omega, rfl, hlt, p'⟩, fun x H' y => ?_⟩
    have y2 := W.yld i H x H' hlt (pS D i acc H hi p) y
    intro X' cx'
    refine fun pins s u I r => thn (step D i acc _ hlt p x H' y2 X' cx' pins s u I r) fun _ s' ⟨σ2, H2, I2, e2, q⟩ => ⟨σ2, H2, I2, e2, ?_⟩
    intro X2 cx2 cn2
    refine fun pins s I => thn (q X2 cx2 cn2 pins s I) fun b s' ⟨H3, I3, q⟩ => ⟨H3, I3, ?_⟩
    cases b with
    | false =>
      rw [if_neg Bool.false_ne_true] at q ⊢
      exact ⟨acc, q⟩
    | true =>
      rw [if_pos rfl] at q ⊢
      intro X2 cx2 cn2
      refine fun pins s I => thn (q X2 cx2 cn2 pins s I) fun u s' ⟨y, H4, I4, r4, R, M, L, kn, hl, z⟩ => ⟨y, H4, I4, r4, acc, kn.is .h, Nat.lt_trans hl (by decide), ?_⟩
      exact ⟨_, z _ (kn.write .h rfl)⟩
  · have e : i = n := by omega
    subst e
    exact .inl ⟨W.stop H (pS D _ acc H hi p), fin D acc H p⟩
end
/-- as a value -/
theorem w_lcV0 {N : List Str} {ns : List (Str × NameKind)} {scope : Scope} {elt : Expr} (own : List (Str × Nat)) (VL' AL' : List (Option Str)) (GL' : List Str) (cx : CxI P w K mg base k VL AL GL E X) (cn : CxN N ns X) (hb : blkB N ns scope own VL' AL' GL' = true)
    (h : LcH0 P w K mg base k N ns scope own VL' AL' GL' X tg iter elt σ H Q) (hs : ∀ x, foldedSetIterable iter X.env x = pure x := by exact (fun _ => by kernel_rfl)) : We X (.ListComp elt [⟨tg, iter, [], 0⟩] scope pos) σ H Q := by
  have bc := @blk_cx P w K mg base k VL AL GL E X N ns scope own VL' AL' GL' cx cn hb
  refine ofPE (pe_lc (own := own) cx.calm cx.nd piU ?_
    (fun s H C cl fp => ⟨fun pins s' σ H v u Q I r q => q _ (bc s _ C cl fp).1 pins s' u I r⟩) (fun _ _ _ _ _ => pts_nil) (fun s H C cl fp => ⟨fun pins s' σ H Q I q => q _ (bc s _ C cl fp).1 (bc s _ C cl fp).2 pins s' I⟩) hs) (lc_in0 h)
  rw [cn.n]
  exact blk_ok hb cn.ns
theorem w_lcV1 {N : List Str} {ns : List (Str × NameKind)} {scope : Scope} {elt c : Expr} (own : List (Str × Nat)) (VL' AL' : List (Option Str)) (GL' : List Str) (cx : CxI P w K mg base k VL AL GL E X) (cn : CxN N ns X) (hb : blkB N ns scope own VL' AL' GL' = true)
    (h : LcH1 P w K mg base k N ns scope own VL' AL' GL' X tg iter elt c σ H Q) (hs : ∀ x, foldedSetIterable iter X.env x = pure x := by exact (fun _ => by kernel_rfl)) : We X (.ListComp elt [⟨tg, iter, [c], 0⟩] scope pos) σ H Q := by
  have bc := @blk_cx P w K mg base k VL AL GL E X N ns scope own VL' AL' GL' cx cn hb
  refine ofPE (pe_lc (own := own) cx.calm cx.nd piU ?_
    (fun s H C cl fp => ⟨fun pins s' σ H v u Q I r q => q _ (bc s _ C cl fp).1 pins s' u I r⟩) (fun s H C cl fp => pts_one ⟨fun pins s' σ H Q I q => q _ (bc s _ C cl fp).1 (bc s _ C cl fp).2 pins s' I⟩) (fun s H C cl fp => ⟨fun pins s' σ H Q I q => q _ (bc s _ C cl fp).1 (bc s _ C cl fp).2 pins s' I⟩) hs) (lc_in1 h)
  rw [cn.n]
  exact blk_ok hb cn.ns
/-- y = [..] -/
theorem s_lcV0 {nx : St → Hp → Prop} {rt : VK} {bk ct : St → Hp → Prop} {rest : List Stmt} {y : Str} {py spos : Pos} {N : List Str} {ns : List (Str × NameKind)} {scope : Scope} {elt : Expr} (own : List (Str × Nat)) (VL' AL' : List (Option Str)) (GL' : List Str) (i : Nat) (cx : CxI P w K mg base k VL AL GL E X) (cn : CxN N ns X) (hb : blkB N ns scope own VL' AL' GL' = true)
    (h : LcH0 P w K mg base k N ns scope own VL' AL' GL' X tg iter elt σ H fun x H1 => ∃ σ', SetAt y x AL σ σ' ∧ Wss X rest ⟨nx, rt, bk, ct⟩ σ' H1) (hi : AL[i]? = some (some y) := by rfl) (hy : ns.lookup y = some .local := by rfl) (hl : (py.line == pos.line) = true := by rfl)
    (ha : (scope.names.any fun (n, k) => n == y && (k == .local || k == .cell)) = false := by decide +kernel) (hs : ∀ x, foldedSetIterable iter X.env x = pure x := by exact (fun _ => by kernel_rfl)) : Wss X (.Assign [.Name y py] (.ListComp elt [⟨tg, iter, [], 0⟩] scope pos) spos :: rest) ⟨nx, rt, bk, ct⟩ σ H := by
  have bc := @blk_cx P w K mg base k VL AL GL E X N ns scope own VL' AL' GL' cx cn hb
  have qok := cx.ok
  unfold okAll at qok
  simp only [Bool.and_eq_true] at qok
  obtain ⟨c, d⟩ := slOk_of qok.1.2 hi
  have e1 : X.env.scope.names.lookup y = some .local := by rw [cn.ns]; exact hy
  refine s_cons (ofPS (ps_setLc (i := i) (own := own) cx.calm cx.nd c e1 (sw_true cn.kd e1 hl ha) piU ?_
    (fun s H C cl fp => ⟨fun pins s' σ H v u Q I r q => q _ (bc s _ C cl fp).1 pins s' u I r⟩) (fun _ _ _ _ _ => pts_nil) (fun s H C cl fp => ⟨fun pins s' σ H Q I q => q _ (bc s _ C cl fp).1 (bc s _ C cl fp).2 pins s' I⟩) hs) (lc_in0 (Q := fun x H1 => Wss X rest ⟨nx, rt, bk, ct⟩ (σ.set i (some x)) H1) ?_))
  · rw [cn.n]
    exact blk_ok hb cn.ns
  · refine fun pins s I => thn (h pins s I) fun v s1 q => thn q fun itv s2 q => ?_
    obtain ⟨it, fp, tn, J, H', e, I', T, t0, fpk, n, S, Y, W, Iv, p0, pS, step, fin⟩ := q
    refine ⟨it, fp, tn, J, H', e, I', T, t0, fpk, n, S, Y, W, Iv, p0, pS, step, fun D acc H p => ?_⟩
    obtain ⟨σ', hs, q⟩ := fin D acc H p
    obtain ⟨j, hj, e⟩ := hs.ix
    obtain ⟨cj, _⟩ := slOk_of qok.1.2 hj
    have z : j = i := nodup_ix cx.nd cj c
    subst z; subst e
    exact q
theorem s_lcV1 {nx : St → Hp → Prop} {rt : VK} {bk ct : St → Hp → Prop} {rest : List Stmt} {y : Str} {py spos : Pos} {N : List Str} {ns : List (Str × NameKind)} {scope : Scope} {elt cc : Expr} (own : List (Str × Nat)) (VL' AL' : List (Option Str)) (GL' : List Str) (i : Nat) (cx : CxI P w K mg base k VL AL GL E X) (cn : CxN N ns X) (hb : blkB N ns scope own VL' AL' GL' = true)
    (h : LcH1 P w K mg base k N ns scope own VL' AL' GL' X tg iter elt cc σ H fun x H1 => ∃ σ', SetAt y x AL σ σ' ∧ Wss X rest ⟨nx, rt, bk, ct⟩ σ' H1) (hi : AL[i]? = some (some y) := by rfl) (hy : ns.lookup y = some .local := by rfl) (hl : (py.line == pos.line) = true := by rfl)
    (ha : (scope.names.any fun (n, k) => n == y && (k == .local || k == .cell)) = false := by decide +kernel) (hs : ∀ x, foldedSetIterable iter X.env x = pure x := by exact (fun _ => by kernel_rfl)) : Wss X (.Assign [.Name y py] (.ListComp elt [⟨tg, iter, [cc], 0⟩] scope pos) spos :: rest) ⟨nx, rt, bk, ct⟩ σ H := by
  have bc := @blk_cx P w K mg base k VL AL GL E X N ns scope own VL' AL' GL' cx cn hb
  have qok := cx.ok
  unfold okAll at qok
  simp only [Bool.and_eq_true] at qok
  obtain ⟨c, d⟩ := slOk_of qok.1.2 hi
  have e1 : X.env.scope.names.lookup y = some .local := by rw [cn.ns]; exact hy
  refine s_cons (ofPS (ps_setLc (i := i) (own := own) cx.calm cx.nd c e1 (sw_true cn.kd e1 hl ha) piU ?_
    (fun s H C cl fp => ⟨fun pins s' σ H v u Q I r q => q _ (bc s _ C cl fp).1 pins s' u I r⟩) (fun s H C cl fp => pts_one ⟨fun pins s' σ H Q I q => q _ (bc s _ C cl fp).1 (bc s _ C cl fp).2 pins s' I⟩) (fun s H C cl fp => ⟨fun pins s' σ H Q I q => q _ (bc s _ C cl fp).1 (bc s _ C cl fp).2 pins s' I⟩) hs) (lc_in1 (Q := fun x H1 => Wss X rest ⟨nx, rt, bk, ct⟩ (σ.set i (some x)) H1) ?_))
  · rw [cn.n]
    exact blk_ok hb cn.ns
  · refine fun pins s I => thn (h pins s I) fun v s1 q => thn q fun itv s2 q => ?_
    obtain ⟨it, fp, tn, J, H', e, I', T, t0, fpk, n, S, Y, W, Iv, p0, pS, step, fin⟩ := q
    refine ⟨it, fp, tn, J, H', e, I', T, t0, fpk, n, S, Y, W, Iv, p0, pS, step, fun D acc H p => ?_⟩
    obtain ⟨σ', hs, q⟩ := fin D acc H p
    obtain ⟨j, hj, e⟩ := hs.ix
    obtain ⟨cj, _⟩ := slOk_of qok.1.2 hj
    have z : j = i := nodup_ix cx.nd cj c
    subst z; subst e
    exact q
/-- an element that is a value of the turn alone: the map of a walk -/
theorem lc_map {N : List Str} {ns : List (Str × NameKind)} {scope : Scope} {elt : Expr} {own : List (Str × Nat)} {VL' AL' : List (Option Str)} {GL' : List Str}
    (h : Wi X tg iter σ H fun J H1 => ∃ n f S, ItW J n f S ∧ ∃ (R : Hp → Prop) (M : List (Addr × (HO → Prop))) (L : List (Addr × Obj)) (g : Nat → V), Kn R M L H1 ∧ n ≤ 900000 ∧ (∀ D acc H, Kn R ((D, Is (.lst acc)) :: M) L H → S H) ∧
      (∀ D i acc H, i < n → Kn R ((D, Is (.lst acc)) :: M) L H → ∀ X', CxI P w K mg base k VL' AL' GL' W0 X' → Wg X' tg (f i) (wipe σ (own.map (·.2))) H fun σ2 H2 => wipe σ2 (own.map (·.2)) = wipe σ (own.map (·.2)) ∧ ∀ X', CxI P w K mg base k VL' AL' GL' W0 X' → CxN N (relN scope.names ns) X' →
        We X' elt σ2 H2 fun y H4 => y = g i ∧ Kn R ((D, Is (.lst acc)) :: M) L H4) ∧ ∀ D H, Kn R ((D, Is (.lst ((List.range n).map g))) :: M) L H → Q (.ref D) H) :
    LcH0 P w K mg base k N ns scope own VL' AL' GL' X tg iter elt σ H Q := by
  refine fun pins s I => thn (h pins s I) fun v s1 q => thn q fun itv s2 q => ?_
  obtain ⟨it, fp, tn, J, H', e, I', T, t0, fpk, n, f, S, W, R, M, L, g, kn, hn, hS, step, fin⟩ := q
  refine ⟨it, fp, tn, J, H', e, I', T, t0, fpk, n, S, _, W.g, fun D i acc H => acc = (List.range i).map g ∧ Kn R ((D, Is (.lst acc)) :: M) L H, ⟨R, M, L, kn, fun D H2 kn => ⟨rfl, kn⟩⟩, fun D i acc H _ p => hS D acc H p.2, ?_, ?_⟩
  · rintro D i acc H hi ⟨ha, kn⟩ x H' ⟨ex, eH⟩ X' cx'
    subst ex eH
    refine fun pins s u I r => thn (step D i acc _ hi kn X' cx' pins s u I r) fun _ s' ⟨σ2, H2, I2, e2, q⟩ => ⟨σ2, H2, I2, e2, fun X2 cx2 cn2 => ?_⟩
    refine fun pins s I => thn (q X2 cx2 cn2 pins s I) fun u s' ⟨y, H4, I4, r4, ey, kn4⟩ => ⟨y, H4, I4, r4, R, M, L, kn4, ?_, fun H5 kn5 => ⟨?_, kn5⟩⟩
    · rw [ha, List.length_map, List.length_range]; omega
    · rw [ha, ey, List.range_succ, List.map_append]; rfl
  · rintro D acc H ⟨ha, kn⟩
    subst ha
    exact fin D H kn
theorem c_allB (cx : CxI P w K mg base k VL AL GL E X) {a : Addr} {bs : List Bool} (en : H a = some (.lst (bs.map V.bl))) (h : Q (.bl (bs.all id)) H) : Wcall X (.builtin "all") [.ref a] H Q := by
  have e3 := cx.eK
  subst e3
  exact ofCall (cr_all cx.calm) ⟨a, bs, rfl, .inl (.inl en), h⟩
/-! ### branches that meet again -/
theorem We.mono {e : Expr} {Q' : VK} (h : We X e σ H Q) (i : ∀ v H, Q v H → Q' v H) : We X e σ H Q' := fun pins s I => thn (h pins s I) fun v s1 ⟨x, H1, I1, r, q⟩ => ⟨x, H1, I1, r, i _ _ q⟩
theorem Wt.mono {e : Expr} {Q Q' : Bool → Hp → Prop} (h : Wt X e σ H Q) (i : ∀ v H, Q v H → Q' v H) : Wt X e σ H Q' := fun pins s I => thn (h pins s I) fun v s1 ⟨H1, I1, q⟩ => ⟨H1, I1, i _ _ q⟩
theorem w_ifM {c a b : Expr} {p : Prop} [Decidable p] {x y : V} {R : Hp → Prop} {M : List (Addr × (HO → Prop))} {L : List (Addr × Obj)} (hc : Wt X c σ H fun z H1 => z = decide p ∧ Kn R M L H1) (ha : p → ∀ H, Kn R M L H → We X a σ H fun v H1 => v = x ∧ Kn R M L H1) (hb : ¬ p → ∀ H, Kn R M L H → We X b σ H fun v H1 => v = y ∧ Kn R M L H1)
    (h : ∀ H, Kn R M L H → Q (if p then x else y) H) : We X (.IfExp c a b pos) σ H Q := by
  refine w_if (Wt.mono hc fun z H1 ⟨ez, kn⟩ => ?_)
  subst ez
  by_cases hp : p
  · rw [decide_eq_true hp, if_pos rfl]
    refine We.mono (ha hp H1 kn) fun v H2 ⟨ev, kn2⟩ => ?_
    have q := h H2 kn2
    rw [if_pos hp] at q
    rw [ev]; exact q
  · rw [decide_eq_false hp, if_neg Bool.false_ne_true]
    refine We.mono (hb hp H1 kn) fun v H2 ⟨ev, kn2⟩ => ?_
    have q := h H2 kn2
    rw [if_neg hp] at q
    rw [ev]; exact q
theorem s_ifM {c : Expr} {a b : List Stmt} {nx : St → Hp → Prop} {rt : VK} {bk ct : St → Hp → Prop} {rest : List Stmt} (Mid : St → Hp → Prop) (h : Wt X c σ H fun z H1 => if z = true then Wss X a ⟨Mid, rt, bk, ct⟩ σ H1 else Wss X b ⟨Mid, rt, bk, ct⟩ σ H1) (hm : ∀ σ' H', Mid σ' H' → Wss X rest ⟨nx, rt, bk, ct⟩ σ' H') :
    Wss X (.If c a b pos :: rest) ⟨nx, rt, bk, ct⟩ σ H := by
  have mono : ∀ {l : List Stmt} {σ' : St} {H' : Hp}, Wss X l ⟨Mid, rt, bk, ct⟩ σ' H' → Wss X l ⟨fun σ' H' => Wss X rest ⟨nx, rt, bk, ct⟩ σ' H', rt, bk, ct⟩ σ' H' := fun {l σ' H'} q pins s I => thn (q pins s I) fun f s1 q => by
    cases f with
    | next => obtain ⟨σ2, H2, I2, q⟩ := q; exact ⟨σ2, H2, I2, hm _ _ q⟩
    | brk => exact q
    | cont => exact q
    | ret v => exact q
  refine s_if (Wt.mono h fun z H1 q => ?_)
  cases z with
  | true => rw [if_pos rfl] at q ⊢; exact mono q
  | false => rw [if_neg Bool.false_ne_true] at q ⊢; exact mono q
theorem s_par2 {N : List Str} {ns : List (Str × NameKind)} {nx : St → Hp → Prop} {rt : VK} {bk ct : St → Hp → Prop} {rest : List Stmt} {x y : Str} (cx : CxI P w K mg base k VL AL GL E X) (cn : CxN N ns X) (i j : Nat) {a b : Expr} {px py pt : Pos} {kt k2 pt2}
    (h : Wa X [a, b] σ H fun vs H1 => ∃ v w σ1 σ2, vs = [v, w] ∧ SetAt x v AL σ σ1 ∧ SetAt y w AL σ1 σ2 ∧ Wss X rest ⟨nx, rt, bk, ct⟩ σ2 H1) (hi : AL[i]? = some (some x) := by rfl) (hj : AL[j]? = some (some y) := by rfl) (hxy : [x, y].eraseDups.length = 2 := by decide +kernel) (hne : x ≠ y := by decide +kernel) (hx : ns.lookup x = some .local := by rfl) (hy : ns.lookup y = some .local := by rfl)
    (hl : (py.line == px.line) = true := by rfl) (h1 : ([a, b].any fun | .Starred .. => true | _ => false) = false := by rfl) (h2 : [a, b].all (foldedForSure 8) = false := by rfl) (h3 : [a, b].all (constantsAlone 8) = false := by rfl)
    (hs : swapsWithSole [.Tuple [.Name x px, .Name y py] kt pt] (.Tuple [a, b] k2 pt2) pos.line X.env = pure false := by kernel_rfl) : Wss X (.Assign [.Tuple [.Name x px, .Name y py] kt pt] (.Tuple [a, b] k2 pt2) pos :: rest) ⟨nx, rt, bk, ct⟩ σ H := by
  have e1 : X.env.scope.names.lookup x = some .local := by rw [cn.ns]; exact hx
  have e2 : X.env.scope.names.lookup y = some .local := by rw [cn.ns]; exact hy
  have e3 : X.env.blockKind = .function := by
    unfold Env.blockKind
    rw [cn.kd]
    rfl
  exact s_par cx h hne e1 e2 (sw_two e3 e1 e2 hl hxy h1 h2 h3) hs hi hj
end
end U

/-! U16: lists against the empty one, repr of any data, ints sorted. -/
namespace U
open PySem PySem.Spec L2
open PySem.W (findIn)
open PyProof.Rows hiding St
section
variable {P : Program} {w : World} {K : PySem.W.Frag} {mg : Str → Option Value} {base : Heap} {k : Nat} {VL AL : List (Option Str)} {GL : List Str} {E : WX} {X : Cx} {σ : St} {H : Hp} {Q : VK} {pos : Pos} {a b : Addr} {xs : List V}
theorem o_neLE (cx : CxI P w K mg base k VL AL GL E X) (h1 : SqL K H a xs) (h2 : SqL K H b []) (h : Q (.bl (!xs.isEmpty)) H) : Wop X (compareOp .NotEq) (.ref a) (.ref b) H Q := by
  cases xs with
  | nil => exact o_neD cx (.lst h1 .nil) (.lst h2 .nil) (by kernel_rfl) (by kernel_rfl) rfl rfl fun c hc => by rw [show c = true from hc.mpr rfl]; exact h
  | cons x xs =>
    have e3 := cx.eK
    subst e3
    intro pins s σ v u I r1 r2
    cases (show v = Value.ref a from r1)
    cases (show u = Value.ref b from r2)
    obtain ⟨its, ra, la, _⟩ := I.list h1
    obtain ⟨its2, rb, lb, _⟩ := I.list h2
    cases rb
    cases ra with
    | cons r rr =>
      unfold compareOp
      exact SeqAt.RcNeAt.lists_lengths la.isList lb.isList (by simp) cx.rg.rm.units0 X.prog X.w X.xe _ ⟨.bl true, H, I, rfl, h⟩
theorem o_eqLE (cx : CxI P w K mg base k VL AL GL E X) (h1 : SqL K H a xs) (h2 : SqL K H b []) (h : Q (.bl xs.isEmpty) H) : Wop X (compareOp .Eq) (.ref a) (.ref b) H Q := by
  cases xs with
  | nil => exact o_eqD cx (.lst h1 .nil) (.lst h2 .nil) (by kernel_rfl) (by kernel_rfl) rfl rfl fun c hc => by rw [show c = true from hc.mpr rfl]; exact h
  | cons x xs =>
    have e3 := cx.eK
    subst e3
    intro pins s σ v u I r1 r2
    cases (show v = Value.ref a from r1)
    cases (show u = Value.ref b from r2)
    obtain ⟨its, ra, la, _⟩ := I.list h1
    obtain ⟨its2, rb, lb, _⟩ := I.list h2
    cases rb
    cases ra with
    | cons r rr =>
      unfold compareOp
      exact SeqAt.RcAt.lists_lengths la.isList lb.isList (by simp) cx.rg.rm.units0 X.prog X.w X.xe _ ⟨.bl false, H, I, rfl, h⟩
end
/-! ### sorted ints -/
def srt (l : List Int) : List Int := l.mergeSort fun a b => decide (a ≤ b)
theorem srt_perm (l : List Int) : (srt l).Perm l := List.mergeSort_perm _ _
theorem srt_pw (l : List Int) : (srt l).Pairwise (· ≤ ·) := by
  have z := List.pairwise_mergeSort (le := fun a b : Int => decide (a ≤ b)) (fun a b c h1 h2 => by simp at *; omega) (fun a b => by simp; omega) l
  exact z.imp fun h => of_decide_eq_true h
theorem srt_uniq {l ys : List Int} (p : ys.Perm l) (h : ys.Pairwise (· ≤ ·)) : ys = srt l :=
  List.Perm.eq_of_pairwise (le := (· ≤ ·)) (fun a b _ _ h1 h2 => Int.le_antisymm h1 h2) h (srt_pw l) (p.trans (srt_perm l).symm)
theorem srt_mem {l : List Int} {x : Int} : x ∈ srt l ↔ x ∈ l := (srt_perm l).mem_iff
theorem srt_len {l : List Int} : (srt l).length = l.length := (srt_perm l).length_eq
theorem srt_of_perm {l m : List Int} (p : l.Perm m) : srt l = srt m := srt_uniq ((srt_perm l).trans p) (srt_pw l)
end U

/-! U17: repr of any data, None compared, cuts of sequences. -/
namespace U
open PySem PySem.Spec L2
open PySem.W (findIn)
open PyProof.Rows hiding St
section
variable {P : Program} {w : World} {K : PySem.W.Frag} {mg : Str → Option Value} {base : Heap} {k : Nat} {VL AL : List (Option Str)} {GL : List Str} {E : WX} {X : Cx} {σ : St} {H : Hp} {Q : VK} {x y : V} {d e : PyData} {a : Addr}
theorem c_reprN (h : Q (.str "None") H) : Wcall X (.builtin "repr") [.non] H Q := by
  intro pins s σ us I rr
  obtain ⟨u, rfl, r1⟩ := rr.one
  cases (show u = Value.none from r1)
  exact PySem.P.repr_of_none ⟨.str _, H, I.tok _, ⟨_, rfl⟩, h⟩
theorem o_neN (h : Q (.bl false) H) : Wop X (compareOp .NotEq) .non .non H Q := ofOp op_ne ⟨rfl, h⟩
theorem o_eqN (h : Q (.bl true) H) : Wop X (compareOp .Eq) .non .non H Q := ofOp op_eq ⟨rfl, h⟩
/-- a cut at a place -/
theorem cut_to {xs : List V} {i : Int} (h0 : 0 ≤ i) : cutV xs none (some i) = xs.take i.toNat := by
  unfold cutV HT.sIx
  simp only [List.drop_zero, Nat.sub_zero]
  rw [if_neg (by omega)]
  by_cases h : i.toNat ≤ xs.length
  · rw [Nat.min_eq_left h]
  · rw [Nat.min_eq_right (by omega), List.take_of_length_le (Nat.le_refl _), List.take_of_length_le (by omega)]
theorem cut_from {xs : List V} {i : Int} (h0 : 0 ≤ i) : cutV xs (some i) none = xs.drop i.toNat := by
  unfold cutV HT.sIx
  simp only []
  rw [if_neg (by omega)]
  by_cases h : i.toNat ≤ xs.length
  · rw [Nat.min_eq_left h, List.take_of_length_le (by rw [List.length_drop]; omega)]
  · rw [Nat.min_eq_right (by omega), List.drop_eq_nil_of_le (Nat.le_refl _), List.drop_eq_nil_of_le (by omega), List.take_nil]
end
/-- what «except B» names -/
theorem exm_of {K : PySem.W.Frag} {D B : Addr} (h1 : PySem.W.subIn K (.ref B) (.type "BaseException") = some true) (h2 : PySem.W.isClsIn K B = true) (h3 : PySem.W.typeIn K (.ref B) = some (.type "type")) (h4 : PySem.W.subIn K (.ref D) (.ref B) = some true) :
    PySem.W.exmOne K (.ref D) (.ref B) = some true := by
  have e1 : (PySem.W.subIn K (.ref B) (.type "BaseException") == some true) = true := by rw [h1] <;> rfl
  have e2 : ((PySem.W.clsIn K B).isSome && PySem.W.typeIn K (.ref B) == some (.type "type")) = true := by
    have h2' : (PySem.W.clsIn K B).isSome = true := h2
    rw [h2', h3] <;> rfl
  show (if (PySem.W.subIn K (.ref B) (.type "BaseException") == some true) = true then (if ((PySem.W.clsIn K B).isSome && PySem.W.typeIn K (.ref B) == some (.type "type")) = true then PySem.W.subIn K (.ref D) (.ref B) else none) else none) = some true
  rw [if_pos e1, if_pos e2]
  exact h4
theorem kit_no {K : PySem.W.Frag} {D C : Addr} (hc : PySem.W.isClsIn K C = true) (ty : PySem.W.typeIn K (.ref C) = some (.type "type")) (h : PySem.W.subIn K (.ref D) (.ref C) = some false) (hd : PySem.W.subIn K (.ref D) (.ref D) = some true) : PySem.W.kitOne K (.ref D) (.ref C) = some false := by
  refine kit_sub hc ty h fun e => ?_
  subst e
  rw [h] at hd
  cases hd
/-- a keyword-only default -/
theorem binds_kw {K : PySem.W.Frag} {fd : FuncData} {ps : List Str} {n : Nat} {D : Addr} {q : Str} {u : Value} (hq : PySem.W.nsIn K D q = some (some u)) (hn : n + 1 = ps.length) (h : ∀ us : List Value, us.length = n → KwChain D [(q, u)] (bindArgs fd ⟨us, []⟩) (ps.zip (us ++ [u]))) : Binds K fd ps [u] := fun s us X hl => by
  have l2 : us.length = n := by
    rw [List.length_append] at hl
    simp at hl
    omega
  exact BindsTo.of_looks fun M => KwChain.looks X (fun p hp => by rw [List.mem_singleton.mp hp]; exact hq) (h us l2)
end U

/-! U36: a def that an except suite calls, the exception being its argument. -/
namespace U
open PySem PySem.Spec L2
open PySem.W (findIn)
open PyProof.Rows hiding St
/-- what is asked of a def that gets the exception -/
abbrev SpH := Addr → Value → Option Addr → Hp → VK → Prop
structure FkH (P : Program) (w : World) (K : PySem.W.Frag) (mg : Str → Option Value) (base : Heap) (j : Nat) (f : Addr) (fd : FuncData) (y : Str) (sp : SpH) : Prop where
  run : ∀ (A : Around) (outer : List Env) (s : Shared) (H : Hp) (args : Args) (a : Addr) (oe : Obj) (cls : Value) (d : Option Addr) (Q : VK), L2H.RoomH j A → A.handled = some (.ref a) → L2H.PinOk outer H s (a, oe) → Zc cls d oe → (∃ vs, oe.data = .fields vs) → Env0 P w K mg base A outer s H → BindsTo s fd args [(y, .ref a)] → sp a cls d H Q →
    codeAny (model P w) A (.call (.ref f) args) (fun r s' => ∃ u, r = .ok (.ret u) ∧ CE outer P w H s Q u s') s
theorem hot_mark {A : Around} {env : Env} {v : Value} (h : A.handled = some v) : (A.deeper env).mark (some v) = A.deeper env := by
  cases A
  cases h
  rfl
section
variable {P : Program} {w : World} {K : PySem.W.Frag} {mg : Str → Option Value} {base : Heap}
theorem fn_okH {x qual : Str} {st : Stmt} {f : Addr} {fd : FuncData} {N : List Str} {y : Str} {k : Nat} {sp : SpH} {ns : List (Str × NameKind)} {VL : List (Option Str)} {GL : List Str} (F : Fun K x qual st f fd) (S : FnScope N [y] (defScope st)) (hns : (defScope st).names = ns)
    (ok : okAll N ns VL VL GL = true) (hbl : ∀ x ∈ blts, mg x = none)
    (h : ∀ (X : Cx) (a : Addr) (cls : Value) (d : Option Addr) (H : Hp) (Q : VK), CxS P w K mg base VL VL GL a cls d X → sp a cls d H Q → Wss X (defBody st) ⟨fun _ H' => Q .non H', Q, fun _ _ => False, fun _ _ => False⟩ (start N [.ref a]) H) : FkH P w K mg base (k + 1) f fd y sp := by
  refine ⟨fun A outer s H args a oe cls d Q hr hh hpin hz hv env hbind hs => ?_⟩
  obtain ⟨oc, od, kV, doc, pm, an, cdv, ct, osl, efd, look, hcode⟩ := F.ex
  subst efd
  have inK : K.In s.heap := env.mod.kin.keeps fun b o e => (env.bs b o e).1
  have loc : ∀ z ∈ [y].zip [Value.ref a], (defScope st).names.lookup z.1 = some .local ∨ ((defScope st).names.lookup z.1 = some .cell ∧ ((cellsFrom (s.heap.objs.size + 1) (defScope st).names []).lookup z.1).isSome = true) := by
    intro z hz
    have my : z.1 ∈ [y] := (List.of_mem_zip (show (z.1, z.2) ∈ [y].zip [Value.ref a] from hz)).1
    exact (S.par z.1 my).imp id fun c => ⟨c, PySem.W.cellsFrom_some _ _ _ (.inl c)⟩
  refine codeAny_call_function hr.depth (inK _ _ look) rfl S.co S.gen rfl (PySem.W.codeRec_of inK hcode) (hbind _ _ _ _ ?_)
  refine wpAny_newFunctionEnv_cells S.kind loc fun env1 eenv t inC => ?_
  subst eenv
  refine ⟨(env.mod.nolimit.keeps fun b o e => (env.bs b o e).1).keeps inC.toInCall.keep, codeAny_func ?_⟩
  let X0 := L2H.cxH (L2.CX P w) P w K mg base N qual (defScope st) f cdv A outer s H (fun _ _ _ => False) (a, oe)
  have I0 : Inv X0 [] (start N [.ref a]) H t := L2H.inv_startH S hpin env rfl (.cons rfl .nil) inC
  obtain ⟨vs, hvs⟩ := hv
  have P1 := I0.pin (a, oe) (List.mem_append_left _ List.mem_cons_self)
  have I1 : Inv (X0.suite a ((a, oe) :: (X0.pn ++ []))) [] (start N [.ref a]) H t := I0.suite P1.1 hvs P1.2.1 P1.2.2.1 P1.2.2.2.1
  have cx : CxS P w K mg base VL VL GL a cls d (X0.suite a ((a, oe) :: (X0.pn ++ []))) := ⟨rfl, rfl, rfl, rfl, rfl, S.nd, by subst hns; exact ok, fun _ => .inl rfl, hbl, X0, oe, _, rfl, hz, _, hvs⟩
  have q := h _ a cls d H Q cx hs [] t I1
  have done : ∀ {σ' : St} {H' : Hp} {v : V} {u : Value} {t' : Shared}, Inv (X0.suite a ((a, oe) :: (X0.pn ++ []))) [] σ' H' t' → RelV v u → Q v H' → CE outer P w H s Q u t' := fun J rv q => ⟨_, _, J.os, J.bare, J.base, J.hok, rv, q⟩
  have e : (X0.suite a ((a, oe) :: (X0.pn ++ []))).A = A.deeper (envOfC qual (defScope st) s.heap.objs.size f cdv) := hot_mark hh
  rw [e] at q
  refine wpAny_mono q (fun fl t' q => ?_) fun _ _ q => False.elim q
  cases fl with
  | next =>
    obtain ⟨σ', H', J, q⟩ := q
    exact ⟨_, rfl, done (v := V.non) (u := Value.none) J rfl q⟩
  | ret u =>
    obtain ⟨v, σ', H', J, rv, q⟩ := q
    exact ⟨_, rfl, done J rv q⟩
  | brk =>
    obtain ⟨_, _, _, q⟩ := q
    exact q.elim
  | cont =>
    obtain ⟨_, _, _, q⟩ := q
    exact q.elim
def DfH (P : Program) (w : World) (K : PySem.W.Frag) (mg : Str → Option Value) (base : Heap) (x : Str) (j : Nat) (y : Str) (sp : SpH) : Prop :=
  ∃ f fd, FkH P w K mg base j f fd y sp ∧ (∀ (s : Shared) (u : Value), BindsTo s fd ⟨[u], []⟩ [(y, u)]) ∧ PySem.W.keepIn K (.ref f) = true ∧ mg x = some (.ref f)
variable {VL AL : List (Option Str)} {GL : List Str} {X : Cx} {σ : St} {H : Hp} {Q : VK} {pos p : Pos} {e : Expr} {x y : Str} {a : Addr} {d : Option Addr} {cls : Value} {k j : Nat} {sp : SpH}
/-- g(e), e being the exception that the suite holds -/
theorem sv_callH (cx : CxS P w K mg base VL AL GL a cls d X) (hr : L2H.RoomH j X.A) (hg : In x GL) (D : DfH P w K mg base x j y sp) (h : Wa X [e] σ H fun vs H1 => vs = [.ref a] ∧ sp a cls d H1 Q)
    (he : starEach [e] X.env = (false, eval e X.env) :: starEach [] X.env := by kernel_rfl) (hpl : (backTo pos (starEach [] X.env)).any (·.1) = false := by kernel_rfl) : We X (.Call (.Name x p) [e] [] pos) σ H Q := by
  obtain ⟨f, fd, F, b, kp, hm⟩ := D
  have g := cx.gl hg
  obtain ⟨X0, oe, pn, e0, hz, hv⟩ := cx.su
  obtain ⟨e1, e2, e3, e4, e5, _⟩ := cx
  subst e1; subst e2; subst e3; subst e4; subst e5
  have hh : X.A.handled = some (.ref a) := by rw [e0]; rfl
  have hp : (a, oe) ∈ X.pn := by rw [e0]; exact List.mem_cons_self
  intro pins s I
  refine wpAny_Call_Name_kw (ld_glob I g.1 hm ?_ g.2)
  refine PySem.W.callWith_K (h₀ := X.base) I.ok.mod.kin kp (thn (h pos pins s I) fun us s1 ⟨vs, H1, I1, rr, ev, q⟩ => ⟨I1.kIn, ?_⟩) he hpl
  subst ev
  obtain ⟨u1, rfl, r1⟩ : ∃ u1, us = [u1] ∧ RelV (.ref a) u1 := by
    cases rr with
    | cons r t =>
      cases t
      exact ⟨_, rfl, r⟩
  cases (show u1 = Value.ref a from r1)
  have P1 := I1.pin (a, oe) (List.mem_append_left _ hp)
  have hpin : L2H.PinOk X.stack H1 s1 (a, oe) := ⟨P1.1, P1.2.1, fun hm => (List.mem_cons.mp (I1.stkSub a hm)).elim P1.2.2.1 P1.2.2.2.1, P1.2.2.2.2⟩
  refine wpAny_call (codeAny_mono (F.run X.A X.stack s1 H1 ⟨[.ref a], []⟩ a oe cls d Q hr hh hpin hz hv I1.env0 (b _ _) q) fun r s' hq => ?_)
  obtain ⟨u, rfl, hq⟩ := hq
  exact I1.after hq
/-- try: body except C as n: suite, with the room that the suite has -/
theorem s_tryH {E : WX} {N : List Str} {ns : List (Str × NameKind)} (cx : CxI P w K mg base k VL AL GL E X) (cn : CxN N ns X) (ct : CxT X) {x n : Str} {C : Addr} {body suite rest : List Stmt} {b₀ : Stmt} {np pos pos' : Pos} {nx : St → Hp → Prop} {rt : VK} {bk ct' : St → Hp → Prop} (i : Nat) (hi : N[i]? = some n) (hl : ns.lookup n = some .local) (hg : In x GL) (hm : mg x = some (.ref C))
    (h : ∀ X', CxI P w K mg base k VL AL GL (wAs K (.ref C) i (fun a cls d D σ H => ∀ X', CxS P w K mg base VL AL GL a cls d X' → L2H.RoomH k X'.A → Wss X' (b₀ :: suite) D σ H) E ⟨fun σ' H' => Wss X rest ⟨nx, rt, bk, ct'⟩ σ' H', rt, bk, ct'⟩) X' → Wss X' body ⟨fun σ' H' => Wss X rest ⟨nx, rt, bk, ct'⟩ σ' H', rt, bk, ct'⟩ σ H) :
    Wss X (.Try body [.ExceptHandler (some (.Name x np)) (some n) (b₀ :: suite) pos'] [] [] pos :: rest) ⟨nx, rt, bk, ct'⟩ σ H := by
  have g := cx.gl hg
  have kn : X.env.kindOf n = some .local := by
    have q := cn.ns
    show X.env.scope.names.lookup n = some .local
    rw [q]
    exact hl
  have nm : Names X x (.ref C) := ⟨g.1, g.2, .inl (by rw [cx.em]; exact hm)⟩
  have e3 := cx.eK
  refine s_cons (ofPS (ps_try_as (Wout := E) (tb := fun W D σ H => ∀ X', CxI P w K mg base k VL AL GL W X' → Wss X' body D σ H) (ts := fun a cls d D σ H => ∀ X', CxS P w K mg base VL AL GL a cls d X' → L2H.RoomH k X'.A → Wss X' (b₀ :: suite) D σ H) ct.stk ct.frm cx.nd (by rw [cn.n]; exact hi) kn nm cx.tk ?_ ?_) ?_)
  · intro W pn xe tk po
    exact ⟨fun pins s σ H D I q => q (X.tr pn xe) ⟨cx.eP, cx.ew, cx.eK, cx.em, cx.eb, cx.nd, cx.ok, cx.fn, cx.room, cx.gd, cx.calm, po, tk, cx.bl⟩ pins s I⟩
  · intro a oe cls d pn z fv
    exact ⟨fun pins s σ H D I q => q (X.suite a ((a, oe) :: pn)) ⟨cx.eP, cx.ew, cx.eK, cx.em, cx.eb, cx.nd, cx.ok, cx.fn, cx.bl, X, oe, pn, rfl, z, fv⟩ ⟨cx.room.dp, cx.room.un⟩ pins s I⟩
  · rw [e3]
    exact h
end
end U

namespace U
open PySem PySem.Spec L2
open PySem.W (findIn isFn mroIn Looks InstAt)
open PyProof.Rows hiding St
def top (i : Nat) : Stmt := PySem.Challenge.pw_pulserope_k03_invalid_frames.main.body.getD i (.Pass ⟨0, 0, 0, 0⟩)
abbrev s_wall : Stmt := top 0
abbrev n_wall : List Str := ["k"]
def ns_wall : List (Str × NameKind) := [("k", .local)]
abbrev v_wall : List (Option Str) := [some "k"]
abbrev g_wall : List Str := []
theorem ck_wall : okAll n_wall ns_wall v_wall v_wall g_wall = true := by decide +kernel
theorem nq_wall : (defScope s_wall).names = ns_wall := rfl
theorem sc_wall : FnScope n_wall ["k"] (defScope s_wall) := ⟨rfl, rfl, rfl, by decide +kernel, rfl, by decide +kernel, by decide +kernel⟩
abbrev s_BadFrame_init : Stmt := inClass (top 3) 0
abbrev n_BadFrame_init : List Str := ["self", "name"]
def ns_BadFrame_init : List (Str × NameKind) := [("self", .local), ("name", .local), ("RopeError", .globalImplicit)]
abbrev v_BadFrame_init : List (Option Str) := [some "self", some "name"]
abbrev g_BadFrame_init : List Str := ["RopeError"]
theorem ck_BadFrame_init : okAll n_BadFrame_init ns_BadFrame_init v_BadFrame_init v_BadFrame_init g_BadFrame_init = true := by decide +kernel
theorem nq_BadFrame_init : (defScope s_BadFrame_init).names = ns_BadFrame_init := rfl
theorem sc_BadFrame_init : FnScope n_BadFrame_init ["self", "name"] (defScope s_BadFrame_init) := ⟨rfl, rfl, rfl, by decide +kernel, rfl, by decide +kernel, by decide +kernel⟩
abbrev s_BadText_init : Stmt := inClass (top 4) 0
abbrev n_BadText_init : List Str := ["self", "index"]
def ns_BadText_init : List (Str × NameKind) := [("self", .local), ("index", .local), ("RopeError", .globalImplicit)]
abbrev v_BadText_init : List (Option Str) := [some "self", some "index"]
abbrev g_BadText_init : List Str := ["RopeError"]
theorem ck_BadText_init : okAll n_BadText_init ns_BadText_init v_BadText_init v_BadText_init g_BadText_init = true := by decide +kernel
theorem nq_BadText_init : (defScope s_BadText_init).names = ns_BadText_init := rfl
theorem sc_BadText_init : FnScope n_BadText_init ["self", "index"] (defScope s_BadText_init) := ⟨rfl, rfl, rfl, by decide +kernel, rfl, by decide +kernel, by decide +kernel⟩
abbrev s_BadPulse_init : Stmt := inClass (top 5) 0
abbrev n_BadPulse_init : List Str := ["self", "index"]
def ns_BadPulse_init : List (Str × NameKind) := [("self", .local), ("index", .local), ("RopeError", .globalImplicit)]
abbrev v_BadPulse_init : List (Option Str) := [some "self", some "index"]
abbrev g_BadPulse_init : List Str := ["RopeError"]
theorem ck_BadPulse_init : okAll n_BadPulse_init ns_BadPulse_init v_BadPulse_init v_BadPulse_init g_BadPulse_init = true := by decide +kernel
theorem nq_BadPulse_init : (defScope s_BadPulse_init).names = ns_BadPulse_init := rfl
theorem sc_BadPulse_init : FnScope n_BadPulse_init ["self", "index"] (defScope s_BadPulse_init) := ⟨rfl, rfl, rfl, by decide +kernel, rfl, by decide +kernel, by decide +kernel⟩
abbrev s_BadPlace_init : Stmt := inClass (top 6) 0
abbrev n_BadPlace_init : List Str := ["self", "place"]
def ns_BadPlace_init : List (Str × NameKind) := [("self", .local), ("place", .local), ("RopeError", .globalImplicit)]
abbrev v_BadPlace_init : List (Option Str) := [some "self", some "place"]
abbrev g_BadPlace_init : List Str := ["RopeError"]
theorem ck_BadPlace_init : okAll n_BadPlace_init ns_BadPlace_init v_BadPlace_init v_BadPlace_init g_BadPlace_init = true := by decide +kernel
theorem nq_BadPlace_init : (defScope s_BadPlace_init).names = ns_BadPlace_init := rfl
theorem sc_BadPlace_init : FnScope n_BadPlace_init ["self", "place"] (defScope s_BadPlace_init) := ⟨rfl, rfl, rfl, by decide +kernel, rfl, by decide +kernel, by decide +kernel⟩
abbrev s_number_of : Stmt := top 11
abbrev n_number_of : List Str := ["text", "digit"]
def ns_number_of : List (Str × NameKind) := [("text", .local), ("len", .globalImplicit), ("MOST_DIGITS", .globalImplicit), ("all", .globalImplicit), ("int", .globalImplicit)]
abbrev v_number_of : List (Option Str) := [some "text", none]
abbrev g_number_of : List Str := ["len", "MOST_DIGITS", "all", "int"]
theorem ck_number_of : okAll n_number_of ns_number_of v_number_of v_number_of g_number_of = true := by decide +kernel
abbrev bo_number_of_0 : List (Str × Nat) := [("digit", 1)]
abbrev bv_number_of_0 : List (Option Str) := [none, some "digit"]
abbrev ba_number_of_0 : List (Option Str) := [none, some "digit"]
abbrev bg_number_of_0 : List Str := ["DIGITS"]
theorem nq_number_of : (defScope s_number_of).names = ns_number_of := rfl
theorem sc_number_of : FnScope n_number_of ["text"] (defScope s_number_of) := ⟨rfl, rfl, rfl, by decide +kernel, rfl, by decide +kernel, by decide +kernel⟩
abbrev s_Frame_init : Stmt := inClass (top 12) 1
abbrev n_Frame_init : List Str := ["self", "pieces", "front", "back"]
def ns_Frame_init : List (Str × NameKind) := [("self", .local), ("pieces", .local), ("front", .local), ("back", .local), ("Frame", .globalImplicit), ("BadFrame", .globalImplicit), ("SIGNS", .globalImplicit)]
abbrev v_Frame_init : List (Option Str) := [some "self", some "pieces", some "front", some "back"]
abbrev g_Frame_init : List Str := ["Frame", "BadFrame", "SIGNS"]
theorem ck_Frame_init : okAll n_Frame_init ns_Frame_init v_Frame_init v_Frame_init g_Frame_init = true := by decide +kernel
theorem nq_Frame_init : (defScope s_Frame_init).names = ns_Frame_init := rfl
theorem sc_Frame_init : FnScope n_Frame_init ["self", "pieces", "front", "back"] (defScope s_Frame_init) := ⟨rfl, rfl, rfl, by decide +kernel, rfl, by decide +kernel, by decide +kernel⟩
abbrev s_Frame_parse : Stmt := inClass (top 12) 2
abbrev n_Frame_parse : List Str := ["cls", "text", "parts", "pieces"]
def ns_Frame_parse : List (Str × NameKind) := [("cls", .local), ("text", .local), ("parts", .local), ("pieces", .local), ("SIGNS", .globalImplicit), ("BadText", .globalImplicit), ("len", .globalImplicit), ("number_of", .globalImplicit)]
abbrev v_Frame_parse : List (Option Str) := [some "cls", some "text", some "parts", some "pieces"]
abbrev g_Frame_parse : List Str := ["SIGNS", "BadText", "len", "number_of"]
theorem ck_Frame_parse : okAll n_Frame_parse ns_Frame_parse v_Frame_parse v_Frame_parse g_Frame_parse = true := by decide +kernel
theorem nq_Frame_parse : (defScope s_Frame_parse).names = ns_Frame_parse := rfl
theorem sc_Frame_parse : FnScope n_Frame_parse ["cls", "text"] (defScope s_Frame_parse) := ⟨rfl, rfl, rfl, by decide +kernel, rfl, by decide +kernel, by decide +kernel⟩
abbrev s_Frame_slots : Stmt := inClass (top 12) 3
abbrev n_Frame_slots : List Str := ["self"]
def ns_Frame_slots : List (Str × NameKind) := [("self", .local), ("_wall", .globalImplicit)]
abbrev v_Frame_slots : List (Option Str) := [some "self"]
abbrev g_Frame_slots : List Str := ["_wall"]
theorem ck_Frame_slots : okAll n_Frame_slots ns_Frame_slots v_Frame_slots v_Frame_slots g_Frame_slots = true := by decide +kernel
theorem nq_Frame_slots : (defScope s_Frame_slots).names = ns_Frame_slots := rfl
theorem sc_Frame_slots : FnScope n_Frame_slots ["self"] (defScope s_Frame_slots) := ⟨rfl, rfl, rfl, by decide +kernel, rfl, by decide +kernel, by decide +kernel⟩
abbrev s_Frame_turn : Stmt := inClass (top 12) 4
abbrev n_Frame_turn : List Str := ["self"]
def ns_Frame_turn : List (Str × NameKind) := [("self", .local), ("_wall", .globalImplicit)]
abbrev v_Frame_turn : List (Option Str) := [some "self"]
abbrev g_Frame_turn : List Str := ["_wall"]
theorem ck_Frame_turn : okAll n_Frame_turn ns_Frame_turn v_Frame_turn v_Frame_turn g_Frame_turn = true := by decide +kernel
theorem nq_Frame_turn : (defScope s_Frame_turn).names = ns_Frame_turn := rfl
theorem sc_Frame_turn : FnScope n_Frame_turn ["self"] (defScope s_Frame_turn) := ⟨rfl, rfl, rfl, by decide +kernel, rfl, by decide +kernel, by decide +kernel⟩
abbrev s_Frame_text : Stmt := inClass (top 12) 5
abbrev n_Frame_text : List Str := ["self"]
def ns_Frame_text : List (Str × NameKind) := [("self", .local)]
abbrev v_Frame_text : List (Option Str) := [some "self"]
abbrev g_Frame_text : List Str := []
theorem ck_Frame_text : okAll n_Frame_text ns_Frame_text v_Frame_text v_Frame_text g_Frame_text = true := by decide +kernel
theorem nq_Frame_text : (defScope s_Frame_text).names = ns_Frame_text := rfl
theorem sc_Frame_text : FnScope n_Frame_text ["self"] (defScope s_Frame_text) := ⟨rfl, rfl, rfl, by decide +kernel, rfl, by decide +kernel, by decide +kernel⟩
abbrev s_Frame_slot_of : Stmt := inClass (top 12) 6
abbrev n_Frame_slot_of : List Str := ["self", "piece", "direction"]
def ns_Frame_slot_of : List (Str × NameKind) := [("self", .local), ("piece", .local), ("direction", .local), ("_wall", .globalImplicit)]
abbrev v_Frame_slot_of : List (Option Str) := [some "self", some "piece", some "direction"]
abbrev g_Frame_slot_of : List Str := ["_wall"]
theorem ck_Frame_slot_of : okAll n_Frame_slot_of ns_Frame_slot_of v_Frame_slot_of v_Frame_slot_of g_Frame_slot_of = true := by decide +kernel
theorem nq_Frame_slot_of : (defScope s_Frame_slot_of).names = ns_Frame_slot_of := rfl
theorem sc_Frame_slot_of : FnScope n_Frame_slot_of ["self", "piece", "direction"] (defScope s_Frame_slot_of) := ⟨rfl, rfl, rfl, by decide +kernel, rfl, by decide +kernel, by decide +kernel⟩
abbrev s_Frame_pulse_at : Stmt := inClass (top 12) 7
abbrev n_Frame_pulse_at : List Str := ["self", "slot"]
def ns_Frame_pulse_at : List (Str × NameKind) := [("self", .local), ("slot", .local), ("_wall", .globalImplicit)]
abbrev v_Frame_pulse_at : List (Option Str) := [some "self", some "slot"]
abbrev g_Frame_pulse_at : List Str := ["_wall"]
theorem ck_Frame_pulse_at : okAll n_Frame_pulse_at ns_Frame_pulse_at v_Frame_pulse_at v_Frame_pulse_at g_Frame_pulse_at = true := by decide +kernel
theorem nq_Frame_pulse_at : (defScope s_Frame_pulse_at).names = ns_Frame_pulse_at := rfl
theorem sc_Frame_pulse_at : FnScope n_Frame_pulse_at ["self", "slot"] (defScope s_Frame_pulse_at) := ⟨rfl, rfl, rfl, by decide +kernel, rfl, by decide +kernel, by decide +kernel⟩
abbrev s_Frame_eq : Stmt := inClass (top 12) 8
abbrev n_Frame_eq : List Str := ["self", "other"]
def ns_Frame_eq : List (Str × NameKind) := [("self", .local), ("other", .local), ("isinstance", .globalImplicit), ("Frame", .globalImplicit)]
abbrev v_Frame_eq : List (Option Str) := [some "self", some "other"]
abbrev g_Frame_eq : List Str := ["isinstance", "Frame"]
theorem ck_Frame_eq : okAll n_Frame_eq ns_Frame_eq v_Frame_eq v_Frame_eq g_Frame_eq = true := by decide +kernel
theorem nq_Frame_eq : (defScope s_Frame_eq).names = ns_Frame_eq := rfl
theorem sc_Frame_eq : FnScope n_Frame_eq ["self", "other"] (defScope s_Frame_eq) := ⟨rfl, rfl, rfl, by decide +kernel, rfl, by decide +kernel, by decide +kernel⟩
abbrev s_Frame_repr : Stmt := inClass (top 12) 9
abbrev n_Frame_repr : List Str := ["self"]
def ns_Frame_repr : List (Str × NameKind) := [("self", .local)]
abbrev v_Frame_repr : List (Option Str) := [some "self"]
abbrev g_Frame_repr : List Str := []
theorem ck_Frame_repr : okAll n_Frame_repr ns_Frame_repr v_Frame_repr v_Frame_repr g_Frame_repr = true := by decide +kernel
theorem nq_Frame_repr : (defScope s_Frame_repr).names = ns_Frame_repr := rfl
theorem sc_Frame_repr : FnScope n_Frame_repr ["self"] (defScope s_Frame_repr) := ⟨rfl, rfl, rfl, by decide +kernel, rfl, by decide +kernel, by decide +kernel⟩
abbrev s_source : Stmt := top 14
abbrev n_source : List Str := ["_law_script", "_law_index", "_law_cell"]
def ns_source : List (Str × NameKind) := [("_law_script", .local), ("_law_index", .local), ("_law_cell", .local), ("len", .globalImplicit), ("max", .globalImplicit)]
abbrev v_source : List (Option Str) := [some "_law_script", some "_law_index", some "_law_cell"]
abbrev g_source : List Str := ["len", "max"]
theorem ck_source : okAll n_source ns_source v_source v_source g_source = true := by decide +kernel
theorem nq_source : (defScope s_source).names = ns_source := rfl
theorem sc_source : FnScope n_source ["_law_script", "_law_index"] (defScope s_source) := ⟨rfl, rfl, rfl, by decide +kernel, rfl, by decide +kernel, by decide +kernel⟩
abbrev s_draw : Stmt := top 15
abbrev n_draw : List Str := ["_law_source_here", "_law_bound", "_law_digit", "_law_mixed"]
def ns_draw : List (Str × NameKind) := [("_law_source_here", .local), ("_law_bound", .local), ("_law_digit", .local), ("_law_mixed", .local)]
abbrev v_draw : List (Option Str) := [some "_law_source_here", some "_law_bound", some "_law_digit", some "_law_mixed"]
abbrev g_draw : List Str := []
theorem ck_draw : okAll n_draw ns_draw v_draw v_draw g_draw = true := by decide +kernel
theorem nq_draw : (defScope s_draw).names = ns_draw := rfl
theorem sc_draw : FnScope n_draw ["_law_source_here", "_law_bound"] (defScope s_draw) := ⟨rfl, rfl, rfl, by decide +kernel, rfl, by decide +kernel, by decide +kernel⟩
abbrev s_shuffled : Stmt := top 16
abbrev n_shuffled : List Str := ["_law_source_here", "_law_things", "_law_left", "_law_step"]
def ns_shuffled : List (Str × NameKind) := [("_law_source_here", .cell), ("_law_things", .local), ("_law_left", .cell), ("list", .globalImplicit), ("range", .globalImplicit), ("len", .globalImplicit)]
abbrev v_shuffled : List (Option Str) := [some "_law_source_here", some "_law_things", some "_law_left", none]
abbrev g_shuffled : List Str := ["list", "range", "len"]
theorem ck_shuffled : okAll n_shuffled ns_shuffled v_shuffled v_shuffled g_shuffled = true := by decide +kernel
abbrev bo_shuffled_0 : List (Str × Nat) := [("_law_step", 3)]
abbrev bv_shuffled_0 : List (Option Str) := [some "_law_source_here", none, some "_law_left", some "_law_step"]
abbrev ba_shuffled_0 : List (Option Str) := [none, none, none, some "_law_step"]
abbrev bg_shuffled_0 : List Str := ["_law_draw", "len"]
theorem nq_shuffled : (defScope s_shuffled).names = ns_shuffled := rfl
theorem sc_shuffled : FnScope n_shuffled ["_law_source_here", "_law_things"] (defScope s_shuffled) := ⟨rfl, rfl, rfl, by decide +kernel, rfl, by decide +kernel, by decide +kernel⟩
abbrev s_word : Stmt := top 17
abbrev n_word : List Str := ["_law_e", "_law_found"]
def ns_word : List (Str × NameKind) := [("_law_e", .local), ("_law_found", .local), ("isinstance", .globalImplicit), ("BadFrame", .globalImplicit), ("BadPlace", .globalImplicit), ("BadPulse", .globalImplicit), ("BadText", .globalImplicit)]
abbrev v_word : List (Option Str) := [some "_law_e", some "_law_found"]
abbrev g_word : List Str := ["isinstance", "BadFrame", "BadPlace", "BadPulse", "BadText"]
theorem ck_word : okAll n_word ns_word v_word v_word g_word = true := by decide +kernel
theorem nq_word : (defScope s_word).names = ns_word := rfl
theorem sc_word : FnScope n_word ["_law_e"] (defScope s_word) := ⟨rfl, rfl, rfl, by decide +kernel, rfl, by decide +kernel, by decide +kernel⟩
abbrev s_told : Stmt := top 18
abbrev n_told : List Str := ["_law_pieces", "_law_front", "_law_back", "_law_found", "_law_e"]
def ns_told : List (Str × NameKind) := [("_law_pieces", .local), ("_law_front", .local), ("_law_back", .local), ("_law_found", .local), ("_law_e", .local), ("Frame", .globalImplicit), ("RopeError", .globalImplicit), ("_law_word", .globalImplicit)]
abbrev v_told : List (Option Str) := [some "_law_pieces", some "_law_front", some "_law_back", some "_law_found", some "_law_e"]
abbrev g_told : List Str := ["Frame", "RopeError", "_law_word"]
theorem ck_told : okAll n_told ns_told v_told v_told g_told = true := by decide +kernel
theorem nq_told : (defScope s_told).names = ns_told := rfl
theorem sc_told : FnScope n_told ["_law_pieces", "_law_front", "_law_back"] (defScope s_told) := ⟨rfl, rfl, rfl, by decide +kernel, rfl, by decide +kernel, by decide +kernel⟩
abbrev s_parsed : Stmt := top 19
abbrev n_parsed : List Str := ["_law_text", "_law_frame", "_law_found", "_law_e"]
def ns_parsed : List (Str × NameKind) := [("_law_text", .local), ("_law_frame", .local), ("_law_found", .local), ("_law_e", .local), ("Frame", .globalImplicit), ("RopeError", .globalImplicit), ("_law_word", .globalImplicit)]
abbrev v_parsed : List (Option Str) := [some "_law_text", some "_law_frame", some "_law_found", some "_law_e"]
abbrev g_parsed : List Str := ["Frame", "RopeError", "_law_word"]
theorem ck_parsed : okAll n_parsed ns_parsed v_parsed v_parsed g_parsed = true := by decide +kernel
theorem nq_parsed : (defScope s_parsed).names = ns_parsed := rfl
theorem sc_parsed : FnScope n_parsed ["_law_text"] (defScope s_parsed) := ⟨rfl, rfl, rfl, by decide +kernel, rfl, by decide +kernel, by decide +kernel⟩
abbrev s_due : Stmt := top 20
abbrev n_due : List Str := ["_law_text", "_law_parts", "_law_digits", "_law_digit"]
def ns_due : List (Str × NameKind) := [("_law_text", .local), ("_law_parts", .local), ("_law_digits", .local), ("len", .globalImplicit), ("int", .globalImplicit)]
abbrev v_due : List (Option Str) := [some "_law_text", some "_law_parts", some "_law_digits", none]
abbrev g_due : List Str := ["len", "int"]
theorem ck_due : okAll n_due ns_due v_due v_due g_due = true := by decide +kernel
abbrev bo_due_0 : List (Str × Nat) := [("_law_digit", 3)]
abbrev bv_due_0 : List (Option Str) := [none, none, none, some "_law_digit"]
abbrev ba_due_0 : List (Option Str) := [none, none, none, some "_law_digit"]
abbrev bg_due_0 : List Str := []
theorem nq_due : (defScope s_due).names = ns_due := rfl
theorem sc_due : FnScope n_due ["_law_text"] (defScope s_due) := ⟨rfl, rfl, rfl, by decide +kernel, rfl, by decide +kernel, by decide +kernel⟩
abbrev s_law : Stmt := top 21
abbrev n_law : List Str := ["_law_script", "_law_ends", "_law_index", "_law_source_here", "_law_pieces", "_law_front", "_law_back", "_law_due_here", "_law_numbers", "_law_first", "_law_texts", "_law_text"]
def ns_law : List (Str × NameKind) := [("_law_script", .local), ("_law_ends", .local), ("_law_index", .local), ("_law_source_here", .local), ("_law_pieces", .local), ("_law_front", .local), ("_law_back", .local), ("_law_due_here", .local), ("_law_numbers", .local), ("_law_first", .local), ("_law_texts", .local), ("_law_text", .local), ("range", .globalImplicit), ("max", .globalImplicit), ("min", .globalImplicit), ("len", .globalImplicit), ("_law_source", .globalImplicit), ("_law_draw", .globalImplicit), ("_law_told", .globalImplicit), ("str", .globalImplicit), ("repr", .globalImplicit), ("_law_parsed", .globalImplicit), ("_law_due", .globalImplicit)]
abbrev v_law : List (Option Str) := [some "_law_script", some "_law_ends", some "_law_index", some "_law_source_here", some "_law_pieces", some "_law_front", some "_law_back", some "_law_due_here", some "_law_numbers", some "_law_first", some "_law_texts", some "_law_text"]
abbrev g_law : List Str := ["range", "max", "min", "len", "_law_source", "_law_draw", "_law_told", "str", "repr", "_law_parsed", "_law_due"]
theorem ck_law : okAll n_law ns_law v_law v_law g_law = true := by decide +kernel
theorem nq_law : (defScope s_law).names = ns_law := rfl
theorem sc_law : FnScope n_law ["_law_script"] (defScope s_law) := ⟨rfl, rfl, rfl, by decide +kernel, rfl, by decide +kernel, by decide +kernel⟩
end U
section
set_option hygiene false
local macro_rules | `(tactic| walk_at "in") => `(tactic| (repeat (first | with_reducible exact In.h | apply In.t)); (first | done | fail))
local macro_rules | `(tactic| walk_at "has") => `(tactic| (repeat (first | with_reducible assumption | with_reducible exact Has.h | apply Has.t)); (first | done | fail))
local macro_rules | `(tactic| walk_at "put") => `(tactic| (repeat (first | with_reducible assumption | with_reducible exact Put.h | apply Put.t)); (first | done | fail))
local macro_rules | `(tactic| walk_at "slot") => `(tactic| (repeat (first | with_reducible exact SlotIs.h | apply SlotIs.t)); (first | done | fail))
local macro_rules | `(tactic| walk_at "set") => `(tactic| (repeat (first | with_reducible exact SetAt.h | apply SetAt.t)); (first | done | fail))
local macro_rules | `(tactic| walk_at "ent") => `(tactic| (repeat (first | with_reducible assumption | with_reducible exact Ent.h | apply Ent.t)); (first | done | fail))
local macro_rules | `(tactic| walk_at "take") => `(tactic| (repeat (first | with_reducible exact Take.h | apply Take.t)); (first | done | fail))
local macro_rules | `(tactic| walk_at "entr") => `(tactic| (repeat (first | with_reducible assumption | with_reducible exact Ent.r | apply Ent.t)); (first | done | fail))
local macro_rules | `(tactic| walk_at "set1") => `(tactic| with_reducible refine k_set (by (repeat (first | with_reducible exact SetAt.h | apply SetAt.t)); (first | done | fail)) ?_)

namespace U
section
open PySem PySem.Spec L2
open PySem.W (findIn isFn mroIn Looks InstAt)
open PyProof.Rows hiding St
set_option hygiene false
local macro_rules | `(tactic| walk_at "k") => `(tactic| first
  | (with_reducible refine ck_e ?_; first
    | (with_reducible refine ck_nm ?_; with_reducible refine w_SIGNS cx T (by (repeat (first | with_reducible exact In.h | apply In.t)); (first | done | fail)) ?_)
    | (with_reducible refine ck_nm ?_; with_reducible refine w_Frame cx T (by (repeat (first | with_reducible exact In.h | apply In.t)); (first | done | fail)) ?_)
    | (with_reducible refine ck_nm ?_; with_reducible refine w_var cx (by (repeat (first | with_reducible exact SlotIs.h | apply SlotIs.t)); (first | done | fail)) ?_)
    | with_reducible refine w_int ?_
    | with_reducible refine w_bin ?_
    | (with_reducible refine ck_ix ?_; with_reducible refine w_ix ?_)
    | (with_reducible refine ck_cmp ?_; with_reducible refine w_cmp ?_)
    | with_reducible refine w_str ?_
    | with_reducible refine w_tupK ?_
    | with_reducible refine w_lstK ?_
    | (with_reducible refine ck_call ?_; with_reducible refine w_len cx (by (repeat (first | with_reducible exact In.h | apply In.t)); (first | done | fail)) ?_)
    | (with_reducible refine ck_call ?_; with_reducible refine w_max cx (by (repeat (first | with_reducible exact In.h | apply In.t)); (first | done | fail)) ?_)
    | (with_reducible refine ck_call ?_; with_reducible refine w_min cx (by (repeat (first | with_reducible exact In.h | apply In.t)); (first | done | fail)) ?_)
    | (with_reducible refine ck_call ?_; with_reducible refine w_abs cx (by (repeat (first | with_reducible exact In.h | apply In.t)); (first | done | fail)) ?_)
    | (with_reducible refine ck_call ?_; with_reducible refine w_repr cx (by (repeat (first | with_reducible exact In.h | apply In.t)); (first | done | fail)) ?_)
    | (with_reducible refine ck_call ?_; with_reducible refine w_isinstance cx (by (repeat (first | with_reducible exact In.h | apply In.t)); (first | done | fail)) ?_)
    | (with_reducible refine ck_call ?_; with_reducible refine w_sorted cx (by (repeat (first | with_reducible exact In.h | apply In.t)); (first | done | fail)) ?_)
    | (with_reducible refine ck_call ?_; with_reducible refine w_all cx (by (repeat (first | with_reducible exact In.h | apply In.t)); (first | done | fail)) ?_)
    | (with_reducible refine ck_call ?_; with_reducible refine w_any cx (by (repeat (first | with_reducible exact In.h | apply In.t)); (first | done | fail)) ?_)
    | (with_reducible refine ck_call ?_; with_reducible refine w_sum cx (by (repeat (first | with_reducible exact In.h | apply In.t)); (first | done | fail)) ?_)
    | (with_reducible refine ck_call ?_; with_reducible refine w_intT cx (by (repeat (first | with_reducible exact In.h | apply In.t)); (first | done | fail)) ?_)
    | (with_reducible refine ck_call ?_; with_reducible refine w_strT cx (by (repeat (first | with_reducible exact In.h | apply In.t)); (first | done | fail)) ?_)
    | (with_reducible refine ck_call ?_; with_reducible refine w_tupleT cx (by (repeat (first | with_reducible exact In.h | apply In.t)); (first | done | fail)) ?_)
    | (with_reducible refine ck_call ?_; with_reducible refine w_listT cx (by (repeat (first | with_reducible exact In.h | apply In.t)); (first | done | fail)) ?_)
    | (with_reducible refine ck_call ?_; with_reducible refine w_dictT cx (by (repeat (first | with_reducible exact In.h | apply In.t)); (first | done | fail)) ?_)
    | (with_reducible refine ck_call ?_; with_reducible refine w_boolT cx (by (repeat (first | with_reducible exact In.h | apply In.t)); (first | done | fail)) ?_)
    | (with_reducible refine ck_atr ?_; with_reducible refine w_attr ?_)
    | with_reducible refine w_un ?_
    | (with_reducible refine ck_cmp ?_; with_reducible refine w_chain ?_)
    | with_reducible refine w_and ?_
    | with_reducible refine w_or ?_
    | with_reducible refine w_bool1 ?_
    | with_reducible refine w_not ?_
    | with_reducible refine w_if ?_
    | with_reducible refine w_bl ?_
    | with_reducible refine w_non ?_
    | with_reducible refine w_joined ?_
    | with_reducible refine w_joined1 ?_
    | with_reducible refine w_fmt ?_)
  | (with_reducible refine ck_a ?_; first
    | with_reducible refine wa_cons ?_
    | with_reducible refine wa_nil ?_)
  | (with_reducible refine ck_s ?_; first
    | with_reducible refine s_fld cx T.cl T.n1 ?_
    | with_reducible refine s_fld cx T.cl T.n2 ?_
    | with_reducible refine s_fld cx T.cl T.n3 ?_
    | with_reducible refine s_fld cx T.cl T.n4 ?_
    | with_reducible refine s_fld cx T.cl T.n5 ?_
    | (with_reducible refine ck_asgn ?_; with_reducible refine s_set cx ?_)
    | with_reducible refine s_if ?_
    | with_reducible refine s_ret ?_
    | with_reducible refine s_nil ?_
    | (with_reducible refine ck_xpr ?_; with_reducible refine s_expr ?_)
    | (with_reducible refine ck_asgn ?_; with_reducible refine s_asg ?_)
    | with_reducible refine s_pass ?_
    | with_reducible refine s_break ?_
    | with_reducible refine s_cont ?_
    | with_reducible refine s_retN ?_)
  | (with_reducible refine ck_o ?_; first
    | with_reducible refine o_ninSg cx T ?_
    | with_reducible refine o_addSn (by repeat (first | with_reducible exact l_emp | with_reducible exact l_en | with_reducible exact l_sp | with_reducible exact l_dir | with_reducible assumption | with_reducible exact l_frt (by first | with_reducible assumption | exact log_ok (by omega)) | with_reducible exact l_int (by first | with_reducible assumption | exact log_ok (by omega)) | with_reducible apply l_app | with_reducible exact Nat.le_refl _)) (by repeat (first | with_reducible exact l_emp | with_reducible exact l_en | with_reducible exact l_sp | with_reducible exact l_dir | with_reducible assumption | with_reducible exact l_frt (by first | with_reducible assumption | exact log_ok (by omega)) | with_reducible exact l_int (by first | with_reducible assumption | exact log_ok (by omega)) | with_reducible apply l_app | with_reducible exact Nat.le_refl _)) (by kernel_rfl) ?_
    | with_reducible refine o_add ?_
    | with_reducible refine o_sub ?_
    | with_reducible refine o_lt ?_
    | with_reducible refine o_le ?_
    | with_reducible refine o_gt ?_
    | with_reducible refine o_ge ?_
    | with_reducible refine o_eqI ?_
    | with_reducible refine o_neI ?_
    | with_reducible refine o_eqS ?_
    | with_reducible refine o_neS ?_
    | with_reducible refine o_neB ?_
    | with_reducible refine o_eqB ?_
    | with_reducible refine o_isN ?_
    | with_reducible refine o_notN ?_
    | with_reducible refine o_mod (by omega) ?_
    | with_reducible refine o_mulL (by omega) ?_
    | with_reducible refine o_mulR (by omega) ?_
    | with_reducible refine o_fdiv (by omega) ?_
    | with_reducible refine o_pow (by simp only [Int.reduceToNat, Int.reducePow]; first | done | rfl) (by omega) (by decide +kernel) ?_
    | with_reducible refine o_neL0 cx (by with_reducible assumption) (by (repeat (first | with_reducible assumption | with_reducible exact Has.h | apply Has.t)); (first | done | fail)) (by (repeat (first | with_reducible assumption | with_reducible exact Has.h | apply Has.t)); (first | done | fail)) ?_
    | with_reducible refine o_fdivB (by omega) ?_)
  | (with_reducible refine ck_c ?_; first
    | with_reducible refine c_strI (by first | with_reducible assumption | exact log_ok (by omega)) ?_
    | with_reducible refine c_reprI (by first | with_reducible assumption | exact log_ok (by omega)) ?_
    | with_reducible refine c_lenS (Nat.le_trans (by repeat (first | with_reducible exact l_emp | with_reducible exact l_en | with_reducible exact l_sp | with_reducible exact l_dir | with_reducible assumption | with_reducible exact l_frt (by first | with_reducible assumption | exact log_ok (by omega)) | with_reducible exact l_int (by first | with_reducible assumption | exact log_ok (by omega)) | with_reducible apply l_app | with_reducible exact Nat.le_refl _)) (Nat.le_of_ble_eq_true (by kernel_rfl))) ?_
    | with_reducible refine c_max cx ?_
    | with_reducible refine c_min cx ?_
    | with_reducible refine c_abs ?_
    | with_reducible refine c_intI ?_
    | with_reducible refine c_intB ?_
    | with_reducible refine c_strS ?_
    | with_reducible refine c_lenT (by with_reducible assumption) (by (repeat (first | with_reducible assumption | with_reducible exact Ent.h | apply Ent.t)); (first | done | fail)) ?_
    | with_reducible refine c_lenL (by with_reducible assumption) (by (repeat (first | with_reducible assumption | with_reducible exact Has.h | apply Has.t)); (first | done | fail)) ?_
    | with_reducible refine c_lenX (by with_reducible assumption) (by (repeat (first | with_reducible assumption | with_reducible exact Ent.h | apply Ent.t)); (first | done | fail)) ?_
    | with_reducible refine c_lenQ cx (by with_reducible assumption) (by (repeat (first | with_reducible assumption | with_reducible exact Ent.h | apply Ent.t)); (first | done | fail)) ?_)
  | (with_reducible refine ck_x ?_; first
    | with_reducible refine x_Sg cx T ?_
    | with_reducible refine x_tup (by with_reducible assumption) (by (repeat (first | with_reducible assumption | with_reducible exact Ent.h | apply Ent.t)); (first | done | fail)) (by first | with_reducible exact at0 | with_reducible exact at1 | with_reducible exact at2) ?_
    | with_reducible refine x_lst (by with_reducible assumption) (by (repeat (first | with_reducible assumption | with_reducible exact Has.h | apply Has.t)); (first | done | fail)) (by first | with_reducible exact at0 | with_reducible exact at1 | with_reducible exact at2) ?_
    | with_reducible refine x_lstX (by with_reducible assumption) (by (repeat (first | with_reducible assumption | with_reducible exact Ent.h | apply Ent.t)); (first | done | fail)) (by first | with_reducible exact at0 | with_reducible exact at1 | with_reducible exact at2) ?_)
  | (with_reducible refine ck_at ?_; first
    | with_reducible refine at_most cx T ?_
    | with_reducible refine at_pieces cx T (by with_reducible assumption) (by (repeat (first | with_reducible assumption | with_reducible exact Ent.h | apply Ent.t)); (first | done | fail)) ?_
    | with_reducible refine at_front cx T (by with_reducible assumption) (by (repeat (first | with_reducible assumption | with_reducible exact Ent.h | apply Ent.t)); (first | done | fail)) ?_
    | with_reducible refine at_back cx T (by with_reducible assumption) (by (repeat (first | with_reducible assumption | with_reducible exact Ent.h | apply Ent.t)); (first | done | fail)) ?_
    | with_reducible refine at_fs cx T (by with_reducible assumption) (by (repeat (first | with_reducible assumption | with_reducible exact Ent.h | apply Ent.t)); (first | done | fail)) ?_
    | with_reducible refine at_bs cx T (by with_reducible assumption) (by (repeat (first | with_reducible assumption | with_reducible exact Ent.h | apply Ent.t)); (first | done | fail)) ?_)
  | (with_reducible refine ck_t ?_; first
    | (with_reducible refine ck_tc ?_; with_reducible refine t_cmp ?_)
    | (with_reducible refine ck_tc ?_; with_reducible refine t_chain ?_)
    | with_reducible refine t_not ?_
    | with_reducible refine t_and ?_
    | with_reducible refine t_or ?_
    | with_reducible refine t_val ?_)
  | (with_reducible refine ck_w ?_; first
    | with_reducible refine ww_and ?_
    | with_reducible refine ww_or ?_
    | with_reducible refine ww_and1 ?_
    | with_reducible refine ww_or1 ?_)
  | (with_reducible refine ck_p ?_; first
    | with_reducible refine p_l0 (by with_reducible assumption) (by (repeat (first | with_reducible assumption | with_reducible exact Put.h | apply Put.t)); (first | done | fail)) ?_
    | with_reducible refine p_l1 (by with_reducible assumption) (by (repeat (first | with_reducible assumption | with_reducible exact Put.h | apply Put.t)); (first | done | fail)) ?_
    | with_reducible refine p_l2 (by with_reducible assumption) (by (repeat (first | with_reducible assumption | with_reducible exact Put.h | apply Put.t)); (first | done | fail)) ?_)
  | (with_reducible refine ck_f ?_; first
    | with_reducible refine f_str (Nat.le_trans (by repeat (first | with_reducible exact l_emp | with_reducible exact l_en | with_reducible exact l_sp | with_reducible exact l_dir | with_reducible assumption | with_reducible exact l_frt (by first | with_reducible assumption | exact log_ok (by omega)) | with_reducible exact l_int (by first | with_reducible assumption | exact log_ok (by omega)) | with_reducible apply l_app | with_reducible exact Nat.le_refl _)) (Nat.le_of_ble_eq_true (by kernel_rfl))) ?_
    | with_reducible refine f_int (by first | with_reducible assumption | exact log_ok (by omega)) ?_)
  | (with_reducible refine ck_j ?_; first
    | with_reducible refine wj_nil ?_
    | with_reducible refine wj_cons ?_)
  | (with_reducible refine ck_g ?_; first
    | (with_reducible refine ck_gn ?_; with_reducible refine g_name cx (by (repeat (first | with_reducible exact SetAt.h | apply SetAt.t)); (first | done | fail)) ?_)
    | (with_reducible refine ck_gx ?_; with_reducible refine g_sub ?_))
  | (with_reducible refine ck_i ?_; first
    | with_reducible refine i_not ?_
    | with_reducible refine i_t (by with_reducible rfl) ?_
    | with_reducible refine i_t ⟨rfl, rfl, rfl⟩ ?_
    | with_reducible refine i_t (by with_reducible assumption) ?_
    | with_reducible refine i_f (by with_reducible assumption) ?_
    | with_reducible refine i_t (by omega) ?_
    | with_reducible refine i_f (by omega) ?_
    | with_reducible refine i_t (by simp only [List.length_cons, List.length_nil]; omega) ?_
    | with_reducible refine i_f (by simp only [List.length_cons, List.length_nil]; omega) ?_)
  | (with_reducible refine ck_i ?_; first
    | with_reducible refine iteT ?_)
  | (with_reducible refine ck_i ?_; first
    | with_reducible refine iteF ?_)
  | (with_reducible refine ck_st ?_; first
    | with_reducible refine k_set (by (repeat (first | with_reducible exact SetAt.h | apply SetAt.t)); (first | done | fail)) ?_)
  | with_reducible refine k_Frame (by with_reducible assumption) (by omega) (by omega) (fun p H kn => ?_)
  | with_reducible refine k_sj (by repeat (first | with_reducible exact l_emp | with_reducible exact l_en | with_reducible exact l_sp | with_reducible exact l_dir | with_reducible assumption | with_reducible exact l_frt (by first | with_reducible assumption | exact log_ok (by omega)) | with_reducible exact l_int (by first | with_reducible assumption | exact log_ok (by omega)) | with_reducible apply l_app | with_reducible exact Nat.le_refl _)) (by kernel_rfl) ?_
  | with_reducible refine k_bl ?_
  | with_reducible refine o_neg ?_
  | with_reducible refine k_sfld (by with_reducible assumption) (by (repeat (first | with_reducible assumption | with_reducible exact Put.h | apply Put.t)); (first | done | fail)) (by repeat (first | with_reducible exact FL.z | apply FL.s)) (by with_unfolding_all rfl) ?_
  | with_reducible refine gs_nil ?_
  | with_reducible refine gs_cons ?_
  | (with_reducible refine ⟨_, _, _, (by with_reducible assumption), (by with_unfolding_all exact Nat.le_of_ble_eq_true rfl), ?_⟩; intro p H kn)
  | (with_reducible intro H kn))
/-! the law's source of numbers -/
def IsSrc (c : Int) : HO → Prop := fun o => ∃ a s i : Int, o = .lst [.int a, .int s, .int i] ∧ 0 ≤ a ∧ 0 ≤ s ∧ s < 1427247692705959881058285969449495136382746624 ∧ 0 ≤ i ∧ i ≤ c
def spSource (K : PySem.W.Frag) : Sp := fun vs H Q _ => ∃ (a : Addr) (ns : List Int) (i : Int) (R : Hp → Prop) (N : List (Addr × (HO → Prop))) (L : List (Addr × Obj)), vs = [.ref a, .int i] ∧ 0 ≤ i ∧ i ≤ 100 ∧ ns.length ≤ 100 ∧
  (Ent R fun J => SqL K J a (ns.map V.int)) ∧ Kn R N L H ∧ ∀ (s : Addr) (H' : Hp), Kn R ((s, IsSrc 0) :: N) L H' → Q (.ref s) H'
section
variable {P : Program} {w : World} {K : PySem.W.Frag} {mg : Str → Option Value} {base : Heap}
theorem atI_lt {α : Type} {xs : List α} {i : Int} (h0 : 0 ≤ i) (h : i < xs.length) : ∃ v, atI xs i = some v := by
  unfold atI ixN
  rw [if_pos h0, if_pos h]
  have z : i.toNat < xs.length := by omega
  exact ⟨xs[i.toNat], by simp [z]⟩
theorem atI_map {i : Int} {ns : List Int} (h0 : 0 ≤ i) (h : i < (ns.map V.int).length) : ∃ z, atI (ns.map V.int) i = some (.int z) := by
  obtain ⟨v, e⟩ := atI_lt h0 h
  have e' := e
  unfold atI ixN at e'
  rw [if_pos h0, if_pos h] at e'
  have z : (ns.map V.int)[i.toNat]? = some v := e'
  rw [List.getElem?_map] at z
  cases q : ns[i.toNat]? with
  | none => rw [q] at z; cases z
  | some u => rw [q] at z; cases z; exact ⟨u, e⟩
theorem src_new {R : Hp → Prop} {N : List (Addr × (HO → Prop))} {L : List (Addr × Obj)} {H : Hp} {p : Addr} {a s : Int} (h0 : 0 ≤ a) (h1 : 0 ≤ s) (h2 : s < 1427247692705959881058285969449495136382746624) (kn : Kn R ((p, Is (.lst [.int a, .int s, .int 0])) :: N) L H) : Kn R ((p, IsSrc 0) :: N) L H :=
  kn.imp .h fun o e => ⟨a, s, 0, e, h0, h1, h2, Int.le_refl _, Int.le_refl _⟩
theorem ok_source {f : Addr} {fd : FuncData} (F : Fun K "_law_source" "_law_source" s_source f fd) (bl : ∀ x ∈ blts, mg x = none) : Fk P w K mg base 1 f fd ["_law_script", "_law_index"] (spSource K) := by
  refine fn_okW F sc_source nq_source ck_source bl (fun vs H Q E h => ?_) (fun X H vs Q E cx h => ?_)
  · obtain ⟨a, ns, i, R, N, L, rfl, _⟩ := h
    rfl
  · obtain ⟨a, ns, i, R, N, L, rfl, h0, h1, h2, en, kn, k⟩ := h
    change Wss X _ _ [_, _, _] _
    refine s_set cx ?_
    repeat walk_at "k"
    refine i_2 (fun hi => ?_) (fun hi => ?_)
    · repeat walk_at "k"
      obtain ⟨z, hz⟩ := atI_map h0 hi
      refine x_lstQ cx kn en hz ?_
      repeat walk_at "k"
      refine k _ _ (src_new ?_ ?_ ?_ kn)
      · split <;> omega
      · omega
      · omega
    · repeat walk_at "k"
      refine k _ _ (src_new ?_ ?_ ?_ kn)
      · split <;> omega
      · omega
      · omega
/-- a number below b; the source goes on -/
def spDraw : Sp := fun vs H Q _ => ∃ (s : Addr) (b c : Int) (R : Hp → Prop) (N N' : List (Addr × (HO → Prop))) (L : List (Addr × Obj)), vs = [.ref s, .int b] ∧ 0 < b ∧ b < 1361129467683753853853498429727072845824 ∧ 0 ≤ c ∧ c ≤ 1152921504606846976 ∧ Put s (IsSrc c) (IsSrc (c + 1)) N N' ∧ Kn R N L H ∧
  ∀ (v : Int) (H' : Hp), 0 ≤ v → v < b → Kn R N' L H' → Q (.int v) H'
theorem o_cube {X : Cx} {H : Hp} {Q : VK} {a : Int} (h0 : 0 ≤ a) (h1 : a < 1606938044258990275541962092341162602522202993782792835301376) (h : ∀ z : Int, Q (.int z) H) : Wop X (binaryOp .Pow) (.int a) (.int 3) H Q := by
  refine o_pow rfl (by decide) ?_ (h _)
  have e : (a.natAbs : Int) = a := by omega
  have z : a.natAbs < 2 ^ 200 := by omega
  have y := PyProof.Rows.intBits_le z
  omega
theorem ok_draw {f : Addr} {fd : FuncData} (F : Fun K "_law_draw" "_law_draw" s_draw f fd) (bl : ∀ x ∈ blts, mg x = none) : Fk P w K mg base 1 f fd ["_law_source_here", "_law_bound"] spDraw := by
  refine fn_okW F sc_draw nq_draw ck_draw bl (fun vs H Q E h => ?_) (fun X H vs Q E cx h => ?_)
  · obtain ⟨a, ns, i, R, N, N', L, rfl, _⟩ := h
    rfl
  · obtain ⟨p, b, c, R, N, N', L, rfl, hb, hb', hc0, hc, hp, kn, k⟩ := h
    obtain ⟨M, f1, f2⟩ := hp.focus
    replace kn := f1 _ _ _ kn
    obtain ⟨o, ⟨a, s, i, rfl, a0, s0, s1, i0, i1⟩, kn⟩ := kn.open1
    change Wss X _ _ [_, _, _, _] _
    refine s_if ?_
    repeat walk_at "k"
    refine i_2 (fun hi => ?_) (fun hi => ?_)
    · repeat walk_at "k"
      refine k _ _ (Int.emod_nonneg _ (by omega)) (Int.emod_lt_of_pos _ hb) (f2 _ _ _ (kn.imp .h fun o e => ⟨_, _, _, e, ?_, s0, s1, i0, by omega⟩))
      exact Int.ediv_nonneg a0 (by omega)
    · repeat walk_at "k"
      refine o_cube (by omega) (by omega) fun z => ?_
      repeat walk_at "k"
      refine o_cube (by omega) (by omega) fun z => ?_
      repeat walk_at "k"
      exact k _ _ (Int.emod_nonneg _ (by omega)) (Int.emod_lt_of_pos _ hb) (f2 _ _ _ (kn.imp .h fun o e => ⟨_, _, _, e, a0, s0, s1, by omega, by omega⟩))
end
/-! frames -/
def en (b : Bool) : Str := if b = true then "free" else "fixed"
def sgn (b : Bool) : Int := if b = true then 1 else -1
theorem en_inj {a b : Bool} : en a = en b ↔ a = b := by
  have h : ¬ (("free" : Str) = "fixed") := by decide +kernel
  have h' : ¬ (("fixed" : Str) = "free") := by decide +kernel
  cases a <;> cases b <;> simp [en, h, h']
theorem en_is (b : Bool) : en b = "fixed" ∨ en b = "free" := by cases b <;> simp [en]
theorem ends_at {v : Int} (h0 : 0 ≤ v) (h1 : v < 2) : atI [V.str "fixed", V.str "free"] v = some (.str (en (decide (v = 1)))) := by
  have h : v = 0 ∨ v = 1 := by omega
  rcases h with rfl | rfl
  · exact at0
  · exact at1
def frFs (n : Int) (f b : Bool) : List (Str × V) := putF "back_sign" (.int (sgn b)) (putF "front_sign" (.int (sgn f)) (putF "back" (.str (en b)) (putF "front" (.str (en f)) (putF "pieces" (.int n) []))))
theorem ne_pf : ¬ (("pieces" : Str) = "front") := by decide +kernel
theorem fr_pieces {n : Int} {f b : Bool} : (frFs n f b).lookup ("pieces" : Str) = some (.int n) := by
  have a1 : ¬ (("pieces" : Str) = "back_sign") := by decide +kernel
  have a2 : ¬ (("pieces" : Str) = "front_sign") := by decide +kernel
  have a3 : ¬ (("pieces" : Str) = "back") := by decide +kernel
  have a4 : ¬ (("pieces" : Str) = "front") := by decide +kernel
  simp only [frFs, lookup_putF, if_neg a1, if_neg a2, if_neg a3, if_neg a4, if_true]
theorem fr_front {n : Int} {f b : Bool} : (frFs n f b).lookup ("front" : Str) = some (.str (en f)) := by
  have a1 : ¬ (("front" : Str) = "back_sign") := by decide +kernel
  have a2 : ¬ (("front" : Str) = "front_sign") := by decide +kernel
  have a3 : ¬ (("front" : Str) = "back") := by decide +kernel
  simp only [frFs, lookup_putF, if_neg a1, if_neg a2, if_neg a3, if_true]
theorem fr_back {n : Int} {f b : Bool} : (frFs n f b).lookup ("back" : Str) = some (.str (en b)) := by
  have a1 : ¬ (("back" : Str) = "back_sign") := by decide +kernel
  have a2 : ¬ (("back" : Str) = "front_sign") := by decide +kernel
  simp only [frFs, lookup_putF, if_neg a1, if_neg a2, if_true]
theorem fr_fs {n : Int} {f b : Bool} : (frFs n f b).lookup ("front_sign" : Str) = some (.int (sgn f)) := by
  have a1 : ¬ (("front_sign" : Str) = "back_sign") := by decide +kernel
  simp only [frFs, lookup_putF, if_neg a1, if_true]
theorem fr_bs {n : Int} {f b : Bool} : (frFs n f b).lookup ("back_sign" : Str) = some (.int (sgn b)) := by
  simp only [frFs, lookup_putF, if_true]
theorem fr_no {n : Int} {f b : Bool} {m : Str} (h : (m == ("back_sign" : Str) || m == ("front_sign" : Str) || m == ("back" : Str) || m == ("front" : Str) || m == ("pieces" : Str)) = false) : (frFs n f b).lookup m = none := by
  simp only [Bool.or_eq_false_iff, beq_eq_false_iff_ne] at h
  obtain ⟨⟨⟨⟨a1, a2⟩, a3⟩, a4⟩, a5⟩ := h
  simp only [frFs, lookup_putF, if_neg a1, if_neg a2, if_neg a3, if_neg a4, if_neg a5]
  rfl
/-- the written dict of signs at d -/
structure Sg (K : PySem.W.Frag) (w : World) (mg : Str → Option Value) (d : Addr) : Prop where
  mg_ : mg "SIGNS" = some (.ref d)
  kd : ∃ es n, KDict K w d es n
  fx : ∃ t, PySem.W.nsIn K d "fixed" = some (some (.int (-1) t))
  fr : ∃ t, PySem.W.nsIn K d "free" = some (some (.int 1 t))
  no : ∀ z : Str, ¬ (z = "fixed" ∨ z = "free") → PySem.W.nsIn K d z = some none
structure FrT (K : PySem.W.Frag) (w : World) (mg : Str → Option Value) (C d : Addr) : Prop where
  sg : Sg K w mg d
  mgC : mg "Frame" = some (.ref C)
  cl : Cls K C
  n1 : NoAttr K C "pieces"
  n2 : NoAttr K C "front"
  n3 : NoAttr K C "back"
  n4 : NoAttr K C "front_sign"
  n5 : NoAttr K C "back_sign"
  mp : ∃ mc t, ClX.CRead K C mc ∧ ClX.CVal K C mc "MOST_PIECES" (.int 1000000000000000000) (.int 1000000000000000000 t)
def IsFr (C a : Addr) (n : Int) (f b : Bool) : Hp → Prop := fun J => ∃ dx, J a = some (.ins C dx (frFs n f b))
section
variable {P : Program} {w : World} {K : PySem.W.Frag} {mg : Str → Option Value} {base : Heap} {C d : Addr}
section
variable {k : Nat} {VL AL : List (Option Str)} {GL : List Str} {E : WX} {E' : XK} {X : Cx} {σ : St} {H : Hp} {Q : VK} {pos : Pos} {R : Hp → Prop} {N : List (Addr × (HO → Prop))} {L : List (Addr × Obj)} {a : Addr} {n : Int} {f b : Bool}
theorem w_SIGNS (cx : CxI P w K mg base k VL AL GL E X) (T : FrT K w mg C d) (hg : In ("SIGNS" : Str) GL) (h : Q (.ref d) H) : We X (.Name "SIGNS" pos) σ H Q := w_glob (v := .ref d) cx hg T.sg.mg_ rfl h
theorem w_Frame (cx : CxI P w K mg base k VL AL GL E X) (T : FrT K w mg C d) (hg : In ("Frame" : Str) GL) (h : Q (.ref C) H) : We X (.Name "Frame" pos) σ H Q := w_glob (v := .ref C) cx hg T.mgC rfl h
theorem at_most (cx : CxI P w K mg base k VL AL GL E X) (T : FrT K w mg C d) (h : Q (.int 1000000000000000000) H) : Wat X (.ref C) "MOST_PIECES" H Q := by
  obtain ⟨mc, t, r, c⟩ := T.mp
  exact at_cval cx r c h
theorem o_ninSg (cx : CxI P w K mg base k VL AL GL E X) (T : FrT K w mg C d) {z : Str} (h : Q (.bl (!decide (z = "fixed" ∨ z = "free"))) H) : Wop X (compareOp .NotIn) (.str z) (.ref d) H Q := by
  obtain ⟨es, m, D⟩ := T.sg.kd
  have e3 := cx.eK
  have e2 := cx.ew
  subst e3; subst e2
  by_cases hz : z = "fixed" ∨ z = "free"
  · rw [decide_eq_true hz] at h
    obtain ⟨t, e⟩ := T.sg.fx
    obtain ⟨t', e'⟩ := T.sg.fr
    rcases hz with rfl | rfl
    · exact ofOp (op_notIn_kd D) ⟨_, _, rfl, rfl, e, h⟩
    · exact ofOp (op_notIn_kd D) ⟨_, _, rfl, rfl, e', h⟩
  · rw [decide_eq_false hz] at h
    exact ofOp (op_notIn_kd D) ⟨_, _, rfl, rfl, T.sg.no z hz, h⟩
theorem x_Sg (cx : CxI P w K mg base k VL AL GL E X) (T : FrT K w mg C d) (h : Q (.int (sgn f)) H) : Wix X (.ref d) (.str (en f)) H Q := by
  obtain ⟨es, m, D⟩ := T.sg.kd
  have e3 := cx.eK
  have e2 := cx.ew
  subst e3; subst e2
  obtain ⟨t, e⟩ := T.sg.fx
  obtain ⟨t', e'⟩ := T.sg.fr
  cases f with
  | true => exact ofIx ix_kdict ⟨d, "free", .int 1, rfl, rfl, ⟨es, m, _, D.at_, D.lit, e', ⟨_, rfl⟩⟩, h⟩
  | false => exact ofIx ix_kdict ⟨d, "fixed", .int (-1), rfl, rfl, ⟨es, m, _, D.at_, D.lit, e, ⟨_, rfl⟩⟩, h⟩
theorem at_pieces (cx : CxI P w K mg base k VL AL GL E X) (T : FrT K w mg C d) (kn : Kn R N L H) (e : Ent R (IsFr C a n f b)) (h : Q (.int n) H) : Wat X (.ref a) "pieces" H Q := by
  obtain ⟨dx, e⟩ := kn.get e
  exact at_fld cx T.cl T.n1 e fr_pieces h
theorem at_front (cx : CxI P w K mg base k VL AL GL E X) (T : FrT K w mg C d) (kn : Kn R N L H) (e : Ent R (IsFr C a n f b)) (h : Q (.str (en f)) H) : Wat X (.ref a) "front" H Q := by
  obtain ⟨dx, e⟩ := kn.get e
  exact at_fld cx T.cl T.n2 e fr_front h
theorem at_back (cx : CxI P w K mg base k VL AL GL E X) (T : FrT K w mg C d) (kn : Kn R N L H) (e : Ent R (IsFr C a n f b)) (h : Q (.str (en b)) H) : Wat X (.ref a) "back" H Q := by
  obtain ⟨dx, e⟩ := kn.get e
  exact at_fld cx T.cl T.n3 e fr_back h
theorem at_fs (cx : CxI P w K mg base k VL AL GL E X) (T : FrT K w mg C d) (kn : Kn R N L H) (e : Ent R (IsFr C a n f b)) (h : Q (.int (sgn f)) H) : Wat X (.ref a) "front_sign" H Q := by
  obtain ⟨dx, e⟩ := kn.get e
  exact at_fld cx T.cl T.n4 e fr_fs h
theorem at_bs (cx : CxI P w K mg base k VL AL GL E X) (T : FrT K w mg C d) (kn : Kn R N L H) (e : Ent R (IsFr C a n f b)) (h : Q (.int (sgn b)) H) : Wat X (.ref a) "back_sign" H Q := by
  obtain ⟨dx, e⟩ := kn.get e
  exact at_fld cx T.cl T.n5 e fr_bs h
end
/-! ### Frame.__init__ with right arguments -/
def spFrInit (C : Addr) : Sp := fun vs H Q _ => ∃ (x dx : Addr) (n : Int) (f b : Bool) (R : Hp → Prop) (N : List (Addr × (HO → Prop))) (L : List (Addr × Obj)), vs = [.ref x, .int n, .str (en f), .str (en b)] ∧ 1 ≤ n ∧ n ≤ 1000000000000000000 ∧
  Kn R ((x, Is (.ins C dx [])) :: N) L H ∧ ∀ H', Kn (Cj (IsFr C x n f b) R) N L H' → Q .non H'
theorem ok_Frame_init {fa : Addr} {fd : FuncData} (F : Fun K "__init__" "Frame.__init__" s_Frame_init fa fd) (bl : ∀ x ∈ blts, mg x = none) (T : FrT K w mg C d) : Fk P w K mg base 1 fa fd ["self", "pieces", "front", "back"] (spFrInit C) := by
  refine fn_okW F sc_Frame_init nq_Frame_init ck_Frame_init bl (fun vs H Q E h => ?_) (fun X H vs Q E cx h => ?_)
  · obtain ⟨x, dx, n, f, b, R, N, L, rfl, _⟩ := h
    rfl
  · obtain ⟨x, dx, n, f, b, R, N, L, rfl, h0, h1, kn, k⟩ := h
    have hf := en_is f
    have hb := en_is b
    change Wss X _ _ [_, _, _, _] _
    refine s_if ?_
    repeat walk_at "k"
    refine k _ ((kn.giveX .h (fun o u v e z => by cases e; cases z) (fun o e z => by cases e; rcases z with ⟨_, z⟩ | ⟨_, z⟩ <;> cases z)).weak fun J z => ⟨?_, z.2⟩)
    obtain ⟨⟨o, e, z⟩, _⟩ := z
    cases e
    exact ⟨dx, z⟩
/-- a frame is made -/
theorem k_Frame {E : XK} {H : Hp} {Q : VK} {R : Hp → Prop} {N : List (Addr × (HO → Prop))} {L : List (Addr × Obj)} {n : Int} {f b : Bool} (kn : Kn R N L H) (h0 : 1 ≤ n) (h1 : n ≤ 1000000000000000000)
    (h : ∀ p H', Kn (Cj (IsFr C p n f b) R) N L H' → Q (.ref p) H') : ∀ y dx, H y = none → H dx = none → dx ≠ y → spFrInit C [.ref y, .int n, .str (en f), .str (en b)] (upd (upd H dx (.own y)) y (.ins C dx [])) (MkQ Q y) E :=
  fun y dx hy hd ne => ⟨y, dx, n, f, b, R, N, L, rfl, h0, h1, (kn.junk hd).new (by rw [upd_ne ne.symm]; exact hy) rfl, fun H' kn' => ⟨rfl, h y H' kn'⟩⟩
/-! ### properties and methods of frames -/
def spFr0 (C : Addr) (g : Int → Bool → Bool → V) : Sp := fun vs H Q _ => ∃ (a : Addr) (n : Int) (f b : Bool) (R : Hp → Prop) (N : List (Addr × (HO → Prop))) (L : List (Addr × Obj)), vs = [.ref a] ∧ Ent R (IsFr C a n f b) ∧ Kn R N L H ∧ ∀ H', Kn R N L H' → Q (g n f b) H'
def dS (fwd : Bool) : Str := if fwd = true then ">" else "<"
def spSlotOf (C : Addr) : Sp := fun vs H Q _ => ∃ (a : Addr) (n p : Int) (f b fwd : Bool) (R : Hp → Prop) (N : List (Addr × (HO → Prop))) (L : List (Addr × Obj)), vs = [.ref a, .int p, .str (dS fwd)] ∧ Ent R (IsFr C a n f b) ∧ Kn R N L H ∧
  ∀ H', Kn R N L H' → Q (.int (if fwd = true then p else 2 * n - 1 - p)) H'
theorem gt_ne : ¬ (("<" : Str) = ">") := by decide +kernel
def dirOf (n s : Int) : Str := if s < n then ">" else "<"
def pieceOf (n s : Int) : Int := if s < n then s else 2 * n - 1 - s
def spPulseAt (C : Addr) : Sp := fun vs H Q _ => ∃ (a : Addr) (n s : Int) (f b : Bool) (R : Hp → Prop) (N : List (Addr × (HO → Prop))) (L : List (Addr × Obj)), vs = [.ref a, .int s] ∧ Ent R (IsFr C a n f b) ∧ Kn R N L H ∧
  ∀ p H', Kn (Cj (Ex p (.tup [.int (pieceOf n s), .str (dirOf n s)])) R) N L H' → Q (.ref p) H'
end

end
end U

namespace U
section
open PySem PySem.Spec L2
open PySem.W (findIn isFn mroIn Looks InstAt)
open PyProof.Rows hiding St
set_option hygiene false
local macro_rules | `(tactic| walk_at "k") => `(tactic| first
  | (with_reducible refine ck_e ?_; first
    | (with_reducible refine ck_nm ?_; with_reducible refine w_SIGNS cx T (by (repeat (first | with_reducible exact In.h | apply In.t)); (first | done | fail)) ?_)
    | (with_reducible refine ck_nm ?_; with_reducible refine w_Frame cx T (by (repeat (first | with_reducible exact In.h | apply In.t)); (first | done | fail)) ?_)
    | (with_reducible refine ck_nm ?_; with_reducible refine w_var cx (by (repeat (first | with_reducible exact SlotIs.h | apply SlotIs.t)); (first | done | fail)) ?_)
    | with_reducible refine w_int ?_
    | with_reducible refine w_bin ?_
    | (with_reducible refine ck_ix ?_; with_reducible refine w_ix ?_)
    | (with_reducible refine ck_cmp ?_; with_reducible refine w_cmp ?_)
    | with_reducible refine w_str ?_
    | with_reducible refine w_tupK ?_
    | with_reducible refine w_lstK ?_
    | (with_reducible refine ck_call ?_; with_reducible refine w_len cx (by (repeat (first | with_reducible exact In.h | apply In.t)); (first | done | fail)) ?_)
    | (with_reducible refine ck_call ?_; with_reducible refine w_max cx (by (repeat (first | with_reducible exact In.h | apply In.t)); (first | done | fail)) ?_)
    | (with_reducible refine ck_call ?_; with_reducible refine w_min cx (by (repeat (first | with_reducible exact In.h | apply In.t)); (first | done | fail)) ?_)
    | (with_reducible refine ck_call ?_; with_reducible refine w_abs cx (by (repeat (first | with_reducible exact In.h | apply In.t)); (first | done | fail)) ?_)
    | (with_reducible refine ck_call ?_; with_reducible refine w_repr cx (by (repeat (first | with_reducible exact In.h | apply In.t)); (first | done | fail)) ?_)
    | (with_reducible refine ck_call ?_; with_reducible refine w_isinstance cx (by (repeat (first | with_reducible exact In.h | apply In.t)); (first | done | fail)) ?_)
    | (with_reducible refine ck_call ?_; with_reducible refine w_sorted cx (by (repeat (first | with_reducible exact In.h | apply In.t)); (first | done | fail)) ?_)
    | (with_reducible refine ck_call ?_; with_reducible refine w_all cx (by (repeat (first | with_reducible exact In.h | apply In.t)); (first | done | fail)) ?_)
    | (with_reducible refine ck_call ?_; with_reducible refine w_any cx (by (repeat (first | with_reducible exact In.h | apply In.t)); (first | done | fail)) ?_)
    | (with_reducible refine ck_call ?_; with_reducible refine w_sum cx (by (repeat (first | with_reducible exact In.h | apply In.t)); (first | done | fail)) ?_)
    | (with_reducible refine ck_call ?_; with_reducible refine w_intT cx (by (repeat (first | with_reducible exact In.h | apply In.t)); (first | done | fail)) ?_)
    | (with_reducible refine ck_call ?_; with_reducible refine w_strT cx (by (repeat (first | with_reducible exact In.h | apply In.t)); (first | done | fail)) ?_)
    | (with_reducible refine ck_call ?_; with_reducible refine w_tupleT cx (by (repeat (first | with_reducible exact In.h | apply In.t)); (first | done | fail)) ?_)
    | (with_reducible refine ck_call ?_; with_reducible refine w_listT cx (by (repeat (first | with_reducible exact In.h | apply In.t)); (first | done | fail)) ?_)
    | (with_reducible refine ck_call ?_; with_reducible refine w_dictT cx (by (repeat (first | with_reducible exact In.h | apply In.t)); (first | done | fail)) ?_)
    | (with_reducible refine ck_call ?_; with_reducible refine w_boolT cx (by (repeat (first | with_reducible exact In.h | apply In.t)); (first | done | fail)) ?_)
    | (with_reducible refine ck_atr ?_; with_reducible refine w_attr ?_)
    | with_reducible refine w_un ?_
    | (with_reducible refine ck_cmp ?_; with_reducible refine w_chain ?_)
    | with_reducible refine w_and ?_
    | with_reducible refine w_or ?_
    | with_reducible refine w_bool1 ?_
    | with_reducible refine w_not ?_
    | with_reducible refine w_if ?_
    | with_reducible refine w_bl ?_
    | with_reducible refine w_non ?_
    | with_reducible refine w_joined ?_
    | with_reducible refine w_joined1 ?_
    | with_reducible refine w_fmt ?_)
  | (with_reducible refine ck_a ?_; first
    | with_reducible refine wa_cons ?_
    | with_reducible refine wa_nil ?_)
  | (with_reducible refine ck_s ?_; first
    | with_reducible refine s_fld cx T.cl T.n1 ?_
    | with_reducible refine s_fld cx T.cl T.n2 ?_
    | with_reducible refine s_fld cx T.cl T.n3 ?_
    | with_reducible refine s_fld cx T.cl T.n4 ?_
    | with_reducible refine s_fld cx T.cl T.n5 ?_
    | (with_reducible refine ck_asgn ?_; with_reducible refine s_set cx ?_)
    | with_reducible refine s_if ?_
    | with_reducible refine s_ret ?_
    | with_reducible refine s_nil ?_
    | (with_reducible refine ck_xpr ?_; with_reducible refine s_expr ?_)
    | (with_reducible refine ck_asgn ?_; with_reducible refine s_asg ?_)
    | with_reducible refine s_pass ?_
    | with_reducible refine s_break ?_
    | with_reducible refine s_cont ?_
    | with_reducible refine s_retN ?_)
  | (with_reducible refine ck_o ?_; first
    | with_reducible refine o_ninSg cx T ?_
    | with_reducible refine o_addSn (by repeat (first | with_reducible exact l_emp | with_reducible exact l_en | with_reducible exact l_sp | with_reducible exact l_dir | with_reducible assumption | with_reducible exact l_frt (by first | with_reducible assumption | exact log_ok (by omega)) | with_reducible exact l_int (by first | with_reducible assumption | exact log_ok (by omega)) | with_reducible apply l_app | with_reducible exact Nat.le_refl _)) (by repeat (first | with_reducible exact l_emp | with_reducible exact l_en | with_reducible exact l_sp | with_reducible exact l_dir | with_reducible assumption | with_reducible exact l_frt (by first | with_reducible assumption | exact log_ok (by omega)) | with_reducible exact l_int (by first | with_reducible assumption | exact log_ok (by omega)) | with_reducible apply l_app | with_reducible exact Nat.le_refl _)) (by kernel_rfl) ?_
    | with_reducible refine o_add ?_
    | with_reducible refine o_sub ?_
    | with_reducible refine o_lt ?_
    | with_reducible refine o_le ?_
    | with_reducible refine o_gt ?_
    | with_reducible refine o_ge ?_
    | with_reducible refine o_eqI ?_
    | with_reducible refine o_neI ?_
    | with_reducible refine o_eqS ?_
    | with_reducible refine o_neS ?_
    | with_reducible refine o_neB ?_
    | with_reducible refine o_eqB ?_
    | with_reducible refine o_isN ?_
    | with_reducible refine o_notN ?_
    | with_reducible refine o_mod (by omega) ?_
    | with_reducible refine o_mulL (by omega) ?_
    | with_reducible refine o_mulR (by omega) ?_
    | with_reducible refine o_fdiv (by omega) ?_
    | with_reducible refine o_pow (by simp only [Int.reduceToNat, Int.reducePow]; first | done | rfl) (by omega) (by decide +kernel) ?_
    | with_reducible refine o_neL0 cx (by with_reducible assumption) (by (repeat (first | with_reducible assumption | with_reducible exact Has.h | apply Has.t)); (first | done | fail)) (by (repeat (first | with_reducible assumption | with_reducible exact Has.h | apply Has.t)); (first | done | fail)) ?_
    | with_reducible refine o_fdivB (by omega) ?_)
  | (with_reducible refine ck_c ?_; first
    | with_reducible refine c_strI (by first | with_reducible assumption | exact log_ok (by omega)) ?_
    | with_reducible refine c_reprI (by first | with_reducible assumption | exact log_ok (by omega)) ?_
    | with_reducible refine c_lenS (Nat.le_trans (by repeat (first | with_reducible exact l_emp | with_reducible exact l_en | with_reducible exact l_sp | with_reducible exact l_dir | with_reducible assumption | with_reducible exact l_frt (by first | with_reducible assumption | exact log_ok (by omega)) | with_reducible exact l_int (by first | with_reducible assumption | exact log_ok (by omega)) | with_reducible apply l_app | with_reducible exact Nat.le_refl _)) (Nat.le_of_ble_eq_true (by kernel_rfl))) ?_
    | with_reducible refine c_max cx ?_
    | with_reducible refine c_min cx ?_
    | with_reducible refine c_abs ?_
    | with_reducible refine c_intI ?_
    | with_reducible refine c_intB ?_
    | with_reducible refine c_strS ?_
    | with_reducible refine c_lenT (by with_reducible assumption) (by (repeat (first | with_reducible assumption | with_reducible exact Ent.h | apply Ent.t)); (first | done | fail)) ?_
    | with_reducible refine c_lenL (by with_reducible assumption) (by (repeat (first | with_reducible assumption | with_reducible exact Has.h | apply Has.t)); (first | done | fail)) ?_
    | with_reducible refine c_lenX (by with_reducible assumption) (by (repeat (first | with_reducible assumption | with_reducible exact Ent.h | apply Ent.t)); (first | done | fail)) ?_
    | with_reducible refine c_lenQ cx (by with_reducible assumption) (by (repeat (first | with_reducible assumption | with_reducible exact Ent.h | apply Ent.t)); (first | done | fail)) ?_)
  | (with_reducible refine ck_x ?_; first
    | with_reducible refine x_Sg cx T ?_
    | with_reducible refine x_tup (by with_reducible assumption) (by (repeat (first | with_reducible assumption | with_reducible exact Ent.h | apply Ent.t)); (first | done | fail)) (by first | with_reducible exact at0 | with_reducible exact at1 | with_reducible exact at2) ?_
    | with_reducible refine x_lst (by with_reducible assumption) (by (repeat (first | with_reducible assumption | with_reducible exact Has.h | apply Has.t)); (first | done | fail)) (by first | with_reducible exact at0 | with_reducible exact at1 | with_reducible exact at2) ?_
    | with_reducible refine x_lstX (by with_reducible assumption) (by (repeat (first | with_reducible assumption | with_reducible exact Ent.h | apply Ent.t)); (first | done | fail)) (by first | with_reducible exact at0 | with_reducible exact at1 | with_reducible exact at2) ?_)
  | (with_reducible refine ck_at ?_; first
    | with_reducible refine at_most cx T ?_
    | with_reducible refine at_pieces cx T (by with_reducible assumption) (by (repeat (first | with_reducible assumption | with_reducible exact Ent.h | apply Ent.t)); (first | done | fail)) ?_
    | with_reducible refine at_front cx T (by with_reducible assumption) (by (repeat (first | with_reducible assumption | with_reducible exact Ent.h | apply Ent.t)); (first | done | fail)) ?_
    | with_reducible refine at_back cx T (by with_reducible assumption) (by (repeat (first | with_reducible assumption | with_reducible exact Ent.h | apply Ent.t)); (first | done | fail)) ?_
    | with_reducible refine at_fs cx T (by with_reducible assumption) (by (repeat (first | with_reducible assumption | with_reducible exact Ent.h | apply Ent.t)); (first | done | fail)) ?_
    | with_reducible refine at_bs cx T (by with_reducible assumption) (by (repeat (first | with_reducible assumption | with_reducible exact Ent.h | apply Ent.t)); (first | done | fail)) ?_)
  | (with_reducible refine ck_t ?_; first
    | (with_reducible refine ck_tc ?_; with_reducible refine t_cmp ?_)
    | (with_reducible refine ck_tc ?_; with_reducible refine t_chain ?_)
    | with_reducible refine t_not ?_
    | with_reducible refine t_and ?_
    | with_reducible refine t_or ?_
    | with_reducible refine t_val ?_)
  | (with_reducible refine ck_w ?_; first
    | with_reducible refine ww_and ?_
    | with_reducible refine ww_or ?_
    | with_reducible refine ww_and1 ?_
    | with_reducible refine ww_or1 ?_)
  | (with_reducible refine ck_p ?_; first
    | with_reducible refine p_l0 (by with_reducible assumption) (by (repeat (first | with_reducible assumption | with_reducible exact Put.h | apply Put.t)); (first | done | fail)) ?_
    | with_reducible refine p_l1 (by with_reducible assumption) (by (repeat (first | with_reducible assumption | with_reducible exact Put.h | apply Put.t)); (first | done | fail)) ?_
    | with_reducible refine p_l2 (by with_reducible assumption) (by (repeat (first | with_reducible assumption | with_reducible exact Put.h | apply Put.t)); (first | done | fail)) ?_)
  | (with_reducible refine ck_f ?_; first
    | with_reducible refine f_str (Nat.le_trans (by repeat (first | with_reducible exact l_emp | with_reducible exact l_en | with_reducible exact l_sp | with_reducible exact l_dir | with_reducible assumption | with_reducible exact l_frt (by first | with_reducible assumption | exact log_ok (by omega)) | with_reducible exact l_int (by first | with_reducible assumption | exact log_ok (by omega)) | with_reducible apply l_app | with_reducible exact Nat.le_refl _)) (Nat.le_of_ble_eq_true (by kernel_rfl))) ?_
    | with_reducible refine f_int (by first | with_reducible assumption | exact log_ok (by omega)) ?_)
  | (with_reducible refine ck_j ?_; first
    | with_reducible refine wj_nil ?_
    | with_reducible refine wj_cons ?_)
  | (with_reducible refine ck_g ?_; first
    | (with_reducible refine ck_gn ?_; with_reducible refine g_name cx (by (repeat (first | with_reducible exact SetAt.h | apply SetAt.t)); (first | done | fail)) ?_)
    | (with_reducible refine ck_gx ?_; with_reducible refine g_sub ?_))
  | (with_reducible refine ck_i ?_; first
    | with_reducible refine i_not ?_
    | with_reducible refine i_t (by with_reducible rfl) ?_
    | with_reducible refine i_t ⟨rfl, rfl, rfl⟩ ?_
    | with_reducible refine i_t (by with_reducible assumption) ?_
    | with_reducible refine i_f (by with_reducible assumption) ?_
    | with_reducible refine i_t (by omega) ?_
    | with_reducible refine i_f (by omega) ?_
    | with_reducible refine i_t (by simp only [List.length_cons, List.length_nil]; omega) ?_
    | with_reducible refine i_f (by simp only [List.length_cons, List.length_nil]; omega) ?_)
  | (with_reducible refine ck_i ?_; first
    | with_reducible refine iteT ?_)
  | (with_reducible refine ck_i ?_; first
    | with_reducible refine iteF ?_)
  | (with_reducible refine ck_st ?_; first
    | with_reducible refine k_set (by (repeat (first | with_reducible exact SetAt.h | apply SetAt.t)); (first | done | fail)) ?_)
  | with_reducible refine k_Frame (by with_reducible assumption) (by omega) (by omega) (fun p H kn => ?_)
  | with_reducible refine k_sj (by repeat (first | with_reducible exact l_emp | with_reducible exact l_en | with_reducible exact l_sp | with_reducible exact l_dir | with_reducible assumption | with_reducible exact l_frt (by first | with_reducible assumption | exact log_ok (by omega)) | with_reducible exact l_int (by first | with_reducible assumption | exact log_ok (by omega)) | with_reducible apply l_app | with_reducible exact Nat.le_refl _)) (by kernel_rfl) ?_
  | with_reducible refine k_bl ?_
  | with_reducible refine o_neg ?_
  | with_reducible refine k_sfld (by with_reducible assumption) (by (repeat (first | with_reducible assumption | with_reducible exact Put.h | apply Put.t)); (first | done | fail)) (by repeat (first | with_reducible exact FL.z | apply FL.s)) (by with_unfolding_all rfl) ?_
  | with_reducible refine gs_nil ?_
  | with_reducible refine gs_cons ?_
  | (with_reducible refine ⟨_, _, _, (by with_reducible assumption), (by with_unfolding_all exact Nat.le_of_ble_eq_true rfl), ?_⟩; intro p H kn)
  | (with_reducible intro H kn))
local macro_rules | `(tactic| walk_at "w") => `(tactic| repeat (first
  | (with_reducible refine ck_e ?_; first
    | (with_reducible refine ck_nm ?_; with_reducible refine w_SIGNS cx T (by (repeat (first | with_reducible exact In.h | apply In.t)); (first | done | fail)) ?_)
    | (with_reducible refine ck_nm ?_; with_reducible refine w_Frame cx T (by (repeat (first | with_reducible exact In.h | apply In.t)); (first | done | fail)) ?_)
    | (with_reducible refine ck_nm ?_; with_reducible refine w_var cx (by (repeat (first | with_reducible exact SlotIs.h | apply SlotIs.t)); (first | done | fail)) ?_)
    | with_reducible refine w_int ?_
    | with_reducible refine w_bin ?_
    | (with_reducible refine ck_ix ?_; with_reducible refine w_ix ?_)
    | (with_reducible refine ck_cmp ?_; with_reducible refine w_cmp ?_)
    | with_reducible refine w_str ?_
    | with_reducible refine w_tupK ?_
    | with_reducible refine w_lstK ?_
    | (with_reducible refine ck_call ?_; with_reducible refine w_len cx (by (repeat (first | with_reducible exact In.h | apply In.t)); (first | done | fail)) ?_)
    | (with_reducible refine ck_call ?_; with_reducible refine w_max cx (by (repeat (first | with_reducible exact In.h | apply In.t)); (first | done | fail)) ?_)
    | (with_reducible refine ck_call ?_; with_reducible refine w_min cx (by (repeat (first | with_reducible exact In.h | apply In.t)); (first | done | fail)) ?_)
    | (with_reducible refine ck_call ?_; with_reducible refine w_abs cx (by (repeat (first | with_reducible exact In.h | apply In.t)); (first | done | fail)) ?_)
    | (with_reducible refine ck_call ?_; with_reducible refine w_repr cx (by (repeat (first | with_reducible exact In.h | apply In.t)); (first | done | fail)) ?_)
    | (with_reducible refine ck_call ?_; with_reducible refine w_isinstance cx (by (repeat (first | with_reducible exact In.h | apply In.t)); (first | done | fail)) ?_)
    | (with_reducible refine ck_call ?_; with_reducible refine w_sorted cx (by (repeat (first | with_reducible exact In.h | apply In.t)); (first | done | fail)) ?_)
    | (with_reducible refine ck_call ?_; with_reducible refine w_all cx (by (repeat (first | with_reducible exact In.h | apply In.t)); (first | done | fail)) ?_)
    | (with_reducible refine ck_call ?_; with_reducible refine w_any cx (by (repeat (first | with_reducible exact In.h | apply In.t)); (first | done | fail)) ?_)
    | (with_reducible refine ck_call ?_; with_reducible refine w_sum cx (by (repeat (first | with_reducible exact In.h | apply In.t)); (first | done | fail)) ?_)
    | (with_reducible refine ck_call ?_; with_reducible refine w_intT cx (by (repeat (first | with_reducible exact In.h | apply In.t)); (first | done | fail)) ?_)
    | (with_reducible refine ck_call ?_; with_reducible refine w_strT cx (by (repeat (first | with_reducible exact In.h | apply In.t)); (first | done | fail)) ?_)
    | (with_reducible refine ck_call ?_; with_reducible refine w_tupleT cx (by (repeat (first | with_reducible exact In.h | apply In.t)); (first | done | fail)) ?_)
    | (with_reducible refine ck_call ?_; with_reducible refine w_listT cx (by (repeat (first | with_reducible exact In.h | apply In.t)); (first | done | fail)) ?_)
    | (with_reducible refine ck_call ?_; with_reducible refine w_dictT cx (by (repeat (first | with_reducible exact In.h | apply In.t)); (first | done | fail)) ?_)
    | (with_reducible refine ck_call ?_; with_reducible refine w_boolT cx (by (repeat (first | with_reducible exact In.h | apply In.t)); (first | done | fail)) ?_)
    | (with_reducible refine ck_atr ?_; with_reducible refine w_attr ?_)
    | with_reducible refine w_un ?_
    | (with_reducible refine ck_cmp ?_; with_reducible refine w_chain ?_)
    | with_reducible refine w_and ?_
    | with_reducible refine w_or ?_
    | with_reducible refine w_bool1 ?_
    | with_reducible refine w_not ?_
    | with_reducible refine w_if ?_
    | with_reducible refine w_bl ?_
    | with_reducible refine w_non ?_
    | with_reducible refine w_joined ?_
    | with_reducible refine w_joined1 ?_
    | with_reducible refine w_fmt ?_)
  | (with_reducible refine ck_a ?_; first
    | with_reducible refine wa_cons ?_
    | with_reducible refine wa_nil ?_)
  | (with_reducible refine ck_s ?_; first
    | with_reducible refine s_fld cx T.cl T.n1 ?_
    | with_reducible refine s_fld cx T.cl T.n2 ?_
    | with_reducible refine s_fld cx T.cl T.n3 ?_
    | with_reducible refine s_fld cx T.cl T.n4 ?_
    | with_reducible refine s_fld cx T.cl T.n5 ?_
    | (with_reducible refine ck_asgn ?_; with_reducible refine s_set cx ?_)
    | with_reducible refine s_if ?_
    | with_reducible refine s_ret ?_
    | with_reducible refine s_nil ?_
    | (with_reducible refine ck_xpr ?_; with_reducible refine s_expr ?_)
    | (with_reducible refine ck_asgn ?_; with_reducible refine s_asg ?_)
    | with_reducible refine s_pass ?_
    | with_reducible refine s_break ?_
    | with_reducible refine s_cont ?_
    | with_reducible refine s_retN ?_)
  | (with_reducible refine ck_o ?_; first
    | with_reducible refine o_ninSg cx T ?_
    | with_reducible refine o_addSn (by repeat (first | with_reducible exact l_emp | with_reducible exact l_en | with_reducible exact l_sp | with_reducible exact l_dir | with_reducible assumption | with_reducible exact l_frt (by first | with_reducible assumption | exact log_ok (by omega)) | with_reducible exact l_int (by first | with_reducible assumption | exact log_ok (by omega)) | with_reducible apply l_app | with_reducible exact Nat.le_refl _)) (by repeat (first | with_reducible exact l_emp | with_reducible exact l_en | with_reducible exact l_sp | with_reducible exact l_dir | with_reducible assumption | with_reducible exact l_frt (by first | with_reducible assumption | exact log_ok (by omega)) | with_reducible exact l_int (by first | with_reducible assumption | exact log_ok (by omega)) | with_reducible apply l_app | with_reducible exact Nat.le_refl _)) (by kernel_rfl) ?_
    | with_reducible refine o_add ?_
    | with_reducible refine o_sub ?_
    | with_reducible refine o_lt ?_
    | with_reducible refine o_le ?_
    | with_reducible refine o_gt ?_
    | with_reducible refine o_ge ?_
    | with_reducible refine o_eqI ?_
    | with_reducible refine o_neI ?_
    | with_reducible refine o_eqS ?_
    | with_reducible refine o_neS ?_
    | with_reducible refine o_neB ?_
    | with_reducible refine o_eqB ?_
    | with_reducible refine o_isN ?_
    | with_reducible refine o_notN ?_
    | with_reducible refine o_mod (by omega) ?_
    | with_reducible refine o_mulL (by omega) ?_
    | with_reducible refine o_mulR (by omega) ?_
    | with_reducible refine o_fdiv (by omega) ?_
    | with_reducible refine o_pow (by simp only [Int.reduceToNat, Int.reducePow]; first | done | rfl) (by omega) (by decide +kernel) ?_
    | with_reducible refine o_neL0 cx (by with_reducible assumption) (by (repeat (first | with_reducible assumption | with_reducible exact Has.h | apply Has.t)); (first | done | fail)) (by (repeat (first | with_reducible assumption | with_reducible exact Has.h | apply Has.t)); (first | done | fail)) ?_
    | with_reducible refine o_fdivB (by omega) ?_)
  | (with_reducible refine ck_c ?_; first
    | with_reducible refine c_strI (by first | with_reducible assumption | exact log_ok (by omega)) ?_
    | with_reducible refine c_reprI (by first | with_reducible assumption | exact log_ok (by omega)) ?_
    | with_reducible refine c_lenS (Nat.le_trans (by repeat (first | with_reducible exact l_emp | with_reducible exact l_en | with_reducible exact l_sp | with_reducible exact l_dir | with_reducible assumption | with_reducible exact l_frt (by first | with_reducible assumption | exact log_ok (by omega)) | with_reducible exact l_int (by first | with_reducible assumption | exact log_ok (by omega)) | with_reducible apply l_app | with_reducible exact Nat.le_refl _)) (Nat.le_of_ble_eq_true (by kernel_rfl))) ?_
    | with_reducible refine c_max cx ?_
    | with_reducible refine c_min cx ?_
    | with_reducible refine c_abs ?_
    | with_reducible refine c_intI ?_
    | with_reducible refine c_intB ?_
    | with_reducible refine c_strS ?_
    | with_reducible refine c_lenT (by with_reducible assumption) (by (repeat (first | with_reducible assumption | with_reducible exact Ent.h | apply Ent.t)); (first | done | fail)) ?_
    | with_reducible refine c_lenL (by with_reducible assumption) (by (repeat (first | with_reducible assumption | with_reducible exact Has.h | apply Has.t)); (first | done | fail)) ?_
    | with_reducible refine c_lenX (by with_reducible assumption) (by (repeat (first | with_reducible assumption | with_reducible exact Ent.h | apply Ent.t)); (first | done | fail)) ?_
    | with_reducible refine c_lenQ cx (by with_reducible assumption) (by (repeat (first | with_reducible assumption | with_reducible exact Ent.h | apply Ent.t)); (first | done | fail)) ?_)
  | (with_reducible refine ck_x ?_; first
    | with_reducible refine x_Sg cx T ?_
    | with_reducible refine x_tup (by with_reducible assumption) (by (repeat (first | with_reducible assumption | with_reducible exact Ent.h | apply Ent.t)); (first | done | fail)) (by first | with_reducible exact at0 | with_reducible exact at1 | with_reducible exact at2) ?_
    | with_reducible refine x_lst (by with_reducible assumption) (by (repeat (first | with_reducible assumption | with_reducible exact Has.h | apply Has.t)); (first | done | fail)) (by first | with_reducible exact at0 | with_reducible exact at1 | with_reducible exact at2) ?_
    | with_reducible refine x_lstX (by with_reducible assumption) (by (repeat (first | with_reducible assumption | with_reducible exact Ent.h | apply Ent.t)); (first | done | fail)) (by first | with_reducible exact at0 | with_reducible exact at1 | with_reducible exact at2) ?_)
  | (with_reducible refine ck_at ?_; first
    | with_reducible refine at_most cx T ?_
    | with_reducible refine at_pieces cx T (by with_reducible assumption) (by (repeat (first | with_reducible assumption | with_reducible exact Ent.h | apply Ent.t)); (first | done | fail)) ?_
    | with_reducible refine at_front cx T (by with_reducible assumption) (by (repeat (first | with_reducible assumption | with_reducible exact Ent.h | apply Ent.t)); (first | done | fail)) ?_
    | with_reducible refine at_back cx T (by with_reducible assumption) (by (repeat (first | with_reducible assumption | with_reducible exact Ent.h | apply Ent.t)); (first | done | fail)) ?_
    | with_reducible refine at_fs cx T (by with_reducible assumption) (by (repeat (first | with_reducible assumption | with_reducible exact Ent.h | apply Ent.t)); (first | done | fail)) ?_
    | with_reducible refine at_bs cx T (by with_reducible assumption) (by (repeat (first | with_reducible assumption | with_reducible exact Ent.h | apply Ent.t)); (first | done | fail)) ?_)
  | (with_reducible refine ck_t ?_; first
    | (with_reducible refine ck_tc ?_; with_reducible refine t_cmp ?_)
    | (with_reducible refine ck_tc ?_; with_reducible refine t_chain ?_)
    | with_reducible refine t_not ?_
    | with_reducible refine t_and ?_
    | with_reducible refine t_or ?_
    | with_reducible refine t_val ?_)
  | (with_reducible refine ck_w ?_; first
    | with_reducible refine ww_and ?_
    | with_reducible refine ww_or ?_
    | with_reducible refine ww_and1 ?_
    | with_reducible refine ww_or1 ?_)
  | (with_reducible refine ck_p ?_; first
    | with_reducible refine p_l0 (by with_reducible assumption) (by (repeat (first | with_reducible assumption | with_reducible exact Put.h | apply Put.t)); (first | done | fail)) ?_
    | with_reducible refine p_l1 (by with_reducible assumption) (by (repeat (first | with_reducible assumption | with_reducible exact Put.h | apply Put.t)); (first | done | fail)) ?_
    | with_reducible refine p_l2 (by with_reducible assumption) (by (repeat (first | with_reducible assumption | with_reducible exact Put.h | apply Put.t)); (first | done | fail)) ?_)
  | (with_reducible refine ck_f ?_; first
    | with_reducible refine f_str (Nat.le_trans (by repeat (first | with_reducible exact l_emp | with_reducible exact l_en | with_reducible exact l_sp | with_reducible exact l_dir | with_reducible assumption | with_reducible exact l_frt (by first | with_reducible assumption | exact log_ok (by omega)) | with_reducible exact l_int (by first | with_reducible assumption | exact log_ok (by omega)) | with_reducible apply l_app | with_reducible exact Nat.le_refl _)) (Nat.le_of_ble_eq_true (by kernel_rfl))) ?_
    | with_reducible refine f_int (by first | with_reducible assumption | exact log_ok (by omega)) ?_)
  | (with_reducible refine ck_j ?_; first
    | with_reducible refine wj_nil ?_
    | with_reducible refine wj_cons ?_)
  | (with_reducible refine ck_g ?_; first
    | (with_reducible refine ck_gn ?_; with_reducible refine g_name cx (by (repeat (first | with_reducible exact SetAt.h | apply SetAt.t)); (first | done | fail)) ?_)
    | (with_reducible refine ck_gx ?_; with_reducible refine g_sub ?_))
  | (with_reducible refine ck_i ?_; first
    | with_reducible refine i_not ?_
    | with_reducible refine i_t (by with_reducible rfl) ?_
    | with_reducible refine i_t ⟨rfl, rfl, rfl⟩ ?_
    | with_reducible refine i_t (by with_reducible assumption) ?_
    | with_reducible refine i_f (by with_reducible assumption) ?_
    | with_reducible refine i_t (by omega) ?_
    | with_reducible refine i_f (by omega) ?_
    | with_reducible refine i_t (by simp only [List.length_cons, List.length_nil]; omega) ?_
    | with_reducible refine i_f (by simp only [List.length_cons, List.length_nil]; omega) ?_)
  | (with_reducible refine ck_i ?_; first
    | with_reducible refine iteT ?_)
  | (with_reducible refine ck_i ?_; first
    | with_reducible refine iteF ?_)
  | (with_reducible refine ck_st ?_; first
    | with_reducible refine k_set (by (repeat (first | with_reducible exact SetAt.h | apply SetAt.t)); (first | done | fail)) ?_)
  | with_reducible refine k_Frame (by with_reducible assumption) (by omega) (by omega) (fun p H kn => ?_)
  | with_reducible refine k_sj (by repeat (first | with_reducible exact l_emp | with_reducible exact l_en | with_reducible exact l_sp | with_reducible exact l_dir | with_reducible assumption | with_reducible exact l_frt (by first | with_reducible assumption | exact log_ok (by omega)) | with_reducible exact l_int (by first | with_reducible assumption | exact log_ok (by omega)) | with_reducible apply l_app | with_reducible exact Nat.le_refl _)) (by kernel_rfl) ?_
  | with_reducible refine k_bl ?_
  | with_reducible refine o_neg ?_
  | with_reducible refine k_sfld (by with_reducible assumption) (by (repeat (first | with_reducible assumption | with_reducible exact Put.h | apply Put.t)); (first | done | fail)) (by repeat (first | with_reducible exact FL.z | apply FL.s)) (by with_unfolding_all rfl) ?_
  | with_reducible refine gs_nil ?_
  | with_reducible refine gs_cons ?_
  | (with_reducible refine ⟨_, _, _, (by with_reducible assumption), (by with_unfolding_all exact Nat.le_of_ble_eq_true rfl), ?_⟩; intro p H kn)
  | (with_reducible intro H kn)))
/-! errors -/
section
variable {P : Program} {w : World} {K : PySem.W.Frag} {mg : Str → Option Value} {base : Heap} {B C : Addr}
theorem ok_BadFrame_init {fa : Addr} {fd : FuncData} (F : Fun K "__init__" "BadFrame.__init__" s_BadFrame_init fa fd) (bl : ∀ x ∈ blts, mg x = none) (hm : mg "RopeError" = some (.ref B)) (vb : VeB K B) (T : OexC K C) (na : findIn K (.ref C) "name" = some none) :
    Fk P w K mg base 1 fa fd ["self", "name"] (spExc C "name" (fun v => ∃ z : Str, v = .str z ∧ z.length ≤ 1000)) := by
  refine fn_okW F sc_BadFrame_init nq_BadFrame_init ck_BadFrame_init bl (fun vs H Q E h => ?_) (fun X H vs Q E cx h => ?_)
  · obtain ⟨a, v, rfl, _⟩ := h
    rfl
  · obtain ⟨a, _, rfl, ⟨i, rfl, hi⟩, ha, k⟩ := h
    change Wss X _ _ [_, _] _
    refine s_expr ?_
    refine w_reinit cx (by repeat (first | with_reducible exact In.h | apply In.t)) hm vb ?_
    repeat walk_at "k"
    refine ⟨a, C, _, rfl, by simp, T, ha, ?_⟩
    refine s_exf cx ?_
    repeat walk_at "k"
    refine ⟨a, C, rfl, T, na, ha, fun dx hd ne => ?_⟩
    repeat walk_at "k"
    exact k dx hd ne

theorem ok_BadText_init {fa : Addr} {fd : FuncData} (F : Fun K "__init__" "BadText.__init__" s_BadText_init fa fd) (bl : ∀ x ∈ blts, mg x = none) (hm : mg "RopeError" = some (.ref B)) (vb : VeB K B) (T : OexC K C) (na : findIn K (.ref C) "index" = some none) :
    Fk P w K mg base 1 fa fd ["self", "index"] (spExc C "index" (fun v => ∃ i : Int, v = .int i ∧ i.natAbs.log2 < 1920)) := by
  refine fn_okW F sc_BadText_init nq_BadText_init ck_BadText_init bl (fun vs H Q E h => ?_) (fun X H vs Q E cx h => ?_)
  · obtain ⟨a, v, rfl, _⟩ := h
    rfl
  · obtain ⟨a, _, rfl, ⟨i, rfl, hi⟩, ha, k⟩ := h
    change Wss X _ _ [_, _] _
    refine s_expr ?_
    refine w_reinit cx (by repeat (first | with_reducible exact In.h | apply In.t)) hm vb ?_
    repeat walk_at "k"
    refine ⟨a, C, _, rfl, by simp, T, ha, ?_⟩
    refine s_exf cx ?_
    repeat walk_at "k"
    refine ⟨a, C, rfl, T, na, ha, fun dx hd ne => ?_⟩
    repeat walk_at "k"
    exact k dx hd ne

end
/-! k03: frames made, right or wrong -/
def LgI : V → Prop := fun v => ∃ i : Int, v = .int i ∧ i.natAbs.log2 < 1920
def StA : V → Prop := fun v => ∃ z : Str, v = .str z ∧ z.length ≤ 1000
def isEnd (z : Str) : Prop := z = "fixed" ∨ z = "free"
instance {z : Str} : Decidable (isEnd z) := inferInstanceAs (Decidable (z = "fixed" ∨ z = "free"))
def badN (n : Int) (x y : Str) : Option Str := if ¬ (1 ≤ n ∧ n ≤ 1000000000000000000) then some ("pieces" : Str) else if ¬ isEnd x then some ("front" : Str) else if ¬ isEnd y then some ("back" : Str) else none
def isFree (x : Str) : Bool := decide (x = "free")
theorem en_free {x : Str} (h : isEnd x) : x = en (isFree x) := by
  have a : ¬ (("fixed" : Str) = "free") := by decide +kernel
  rcases h with rfl | rfl
  · unfold isFree en
    rw [decide_eq_false a]
    rfl
  · unfold isFree en
    rw [decide_eq_true rfl]
    rfl
theorem isFree_en {b : Bool} : isFree (en b) = b := by
  have a : ¬ (("fixed" : Str) = "free") := by decide +kernel
  cases b <;> unfold isFree en <;> simp [a]
def spFrG (C Df : Addr) : Sp := fun vs H Q E => ∃ (x dx : Addr) (n : Int) (u v : Str) (R : Hp → Prop) (N : List (Addr × (HO → Prop))) (L : List (Addr × Obj)), vs = [.ref x, .int n, .str u, .str v] ∧
  Kn R ((x, Is (.ins C dx [])) :: N) L H ∧ (badN n u v = none → ∀ H', Kn (Cj (IsFr C x n (isFree u) (isFree v)) R) N L H' → Q .non H') ∧ ∀ z, badN n u v = some z → Ra E Df "name" (.str z) R N L
section
variable {P : Program} {w : World} {K : PySem.W.Frag} {mg : Str → Option Value} {base : Heap} {C d Df : Addr}
theorem ok_Frame_initG {fa : Addr} {fd : FuncData} (F : Fun K "__init__" "Frame.__init__" s_Frame_init fa fd) (bl : ∀ x ∈ blts, mg x = none) (T : FrT K w mg C d) (DX : ExC P w K mg base Df "BadFrame" "name" 1 StA) : Fk P w K mg base 3 fa fd ["self", "pieces", "front", "back"] (spFrG C Df) := by
  refine fn_okW F sc_Frame_init nq_Frame_init ck_Frame_init bl (fun vs H Q E h => ?_) (fun X H vs Q E cx h => ?_)
  · obtain ⟨x, dx, n, u, v, R, N, L, rfl, _⟩ := h
    rfl
  · obtain ⟨x, dx, n, u, v, R, N, L, rfl, kn, k, kb⟩ := h
    change Wss X _ _ [_, _, _, _] _
    refine s_if ?_
    have bad : ∀ {z : Str} {H : Hp}, badN n u v = some z → z.length ≤ 1000 → Kn R ((x, Is (.ins C dx [])) :: N) L H → StA (.str z) ∧ ∃ R' N' L', Kn R' N' L' H ∧ ∀ dd H2, Kn (Cj (Ex dd (.xd [("name", .str z)])) R') N' L' H2 → E (.ref Df) (some dd) H2 :=
      fun {z H} hz hl kn => ⟨⟨_, rfl, hl⟩, _, _, _, kn.drop1, kb z hz⟩
    by_cases hn : 1 ≤ n ∧ n ≤ 1000000000000000000
    · obtain ⟨h0, h1⟩ := id hn
      walk_at "w"
      by_cases hu : isEnd u
      · have hu' : u = "fixed" ∨ u = "free" := hu
        walk_at "w"
        by_cases hv : isEnd v
        · have hv' : v = "fixed" ∨ v = "free" := hv
          have hnone : badN n u v = none := by
            unfold badN
            rw [if_neg (not_not_intro hn), if_neg (not_not_intro hu), if_neg (not_not_intro hv)]
          replace k := k hnone
          obtain ⟨f, rfl⟩ : ∃ f, u = en f := ⟨_, en_free hu⟩
          obtain ⟨b, rfl⟩ : ∃ b, v = en b := ⟨_, en_free hv⟩
          rw [isFree_en, isFree_en] at k
          walk_at "w"
          refine k _ ((kn.giveX .h (fun o u v e z => by cases e; cases z) (fun o e z => by cases e; rcases z with ⟨_, z⟩ | ⟨_, z⟩ <;> cases z)).weak fun J z => ⟨?_, z.2⟩)
          obtain ⟨⟨o, e, z⟩, _⟩ := z
          cases e
          exact ⟨dx, z⟩
        · have hv' : ¬ (v = "fixed" ∨ v = "free") := hv
          walk_at "w"
          refine s_raiseK cx DX (by walk_at "in") (by kernel_rfl) ?_
          walk_at "w"
          exact bad (by unfold badN; rw [if_neg (not_not_intro hn), if_neg (not_not_intro hu), if_pos hv]) (by decide +kernel) kn
      · have hu' : ¬ (u = "fixed" ∨ u = "free") := hu
        walk_at "w"
        refine s_raiseK cx DX (by walk_at "in") (by kernel_rfl) ?_
        walk_at "w"
        exact bad (by unfold badN; rw [if_neg (not_not_intro hn), if_pos hu]) (by decide +kernel) kn
    · have hz : badN n u v = some ("pieces" : Str) := by
        unfold badN
        rw [if_pos hn]
      by_cases h0 : 1 ≤ n
      · have h1 : ¬ n ≤ 1000000000000000000 := fun z => hn ⟨h0, z⟩
        walk_at "w"
        refine s_raiseK cx DX (by walk_at "in") (by kernel_rfl) ?_
        walk_at "w"
        exact bad hz (by decide +kernel) kn
      · walk_at "w"
        refine s_raiseK cx DX (by walk_at "in") (by kernel_rfl) ?_
        walk_at "w"
        exact bad hz (by decide +kernel) kn
/-- a frame is made, or not -/
theorem k_FrameG {E : XK} {H : Hp} {Q : VK} {R : Hp → Prop} {N : List (Addr × (HO → Prop))} {L : List (Addr × Obj)} {n : Int} {u v : Str} (kn : Kn R N L H)
    (h : badN n u v = none → ∀ p H', Kn (Cj (IsFr C p n (isFree u) (isFree v)) R) N L H' → Q (.ref p) H') (hb : ∀ z, badN n u v = some z → ∀ R', Ent R' R → Ra E Df "name" (.str z) R' N L) : ∀ y dx, H y = none → H dx = none → dx ≠ y → spFrG C Df [.ref y, .int n, .str u, .str v] (upd (upd H dx (.own y)) y (.ins C dx [])) (MkQ Q y) E :=
  fun y dx hy hd ne => ⟨y, dx, n, u, v, R, N, L, rfl, (kn.junk hd).new (by rw [upd_ne ne.symm]; exact hy) rfl, fun hz H' kn' => ⟨rfl, h hz y H' kn'⟩, fun z hz => hb z hz _ .r⟩
end

end
end U

namespace U
section
open PySem PySem.Spec L2
open PySem.W (findIn isFn mroIn Looks InstAt)
open PyProof.Rows hiding St
set_option hygiene false
local macro_rules | `(tactic| walk_at "k") => `(tactic| first
  | (with_reducible refine ck_e ?_; first
    | (with_reducible refine ck_nm ?_; with_reducible refine w_DIG cx T (by (repeat (first | with_reducible exact In.h | apply In.t)); (first | done | fail)) ?_)
    | (with_reducible refine ck_nm ?_; with_reducible refine w_MOST cx T (by (repeat (first | with_reducible exact In.h | apply In.t)); (first | done | fail)) ?_)
    | (with_reducible refine ck_nm ?_; with_reducible refine w_var cx (by (repeat (first | with_reducible exact SlotIs.h | apply SlotIs.t)); (first | done | fail)) ?_)
    | with_reducible refine w_int ?_
    | with_reducible refine w_bin ?_
    | (with_reducible refine ck_ix ?_; with_reducible refine w_ix ?_)
    | (with_reducible refine ck_cmp ?_; with_reducible refine w_cmp ?_)
    | with_reducible refine w_str ?_
    | with_reducible refine w_tupK ?_
    | with_reducible refine w_lstK ?_
    | (with_reducible refine ck_call ?_; with_reducible refine w_len cx (by (repeat (first | with_reducible exact In.h | apply In.t)); (first | done | fail)) ?_)
    | (with_reducible refine ck_call ?_; with_reducible refine w_max cx (by (repeat (first | with_reducible exact In.h | apply In.t)); (first | done | fail)) ?_)
    | (with_reducible refine ck_call ?_; with_reducible refine w_min cx (by (repeat (first | with_reducible exact In.h | apply In.t)); (first | done | fail)) ?_)
    | (with_reducible refine ck_call ?_; with_reducible refine w_abs cx (by (repeat (first | with_reducible exact In.h | apply In.t)); (first | done | fail)) ?_)
    | (with_reducible refine ck_call ?_; with_reducible refine w_repr cx (by (repeat (first | with_reducible exact In.h | apply In.t)); (first | done | fail)) ?_)
    | (with_reducible refine ck_call ?_; with_reducible refine w_isinstance cx (by (repeat (first | with_reducible exact In.h | apply In.t)); (first | done | fail)) ?_)
    | (with_reducible refine ck_call ?_; with_reducible refine w_sorted cx (by (repeat (first | with_reducible exact In.h | apply In.t)); (first | done | fail)) ?_)
    | (with_reducible refine ck_call ?_; with_reducible refine w_all cx (by (repeat (first | with_reducible exact In.h | apply In.t)); (first | done | fail)) ?_)
    | (with_reducible refine ck_call ?_; with_reducible refine w_any cx (by (repeat (first | with_reducible exact In.h | apply In.t)); (first | done | fail)) ?_)
    | (with_reducible refine ck_call ?_; with_reducible refine w_sum cx (by (repeat (first | with_reducible exact In.h | apply In.t)); (first | done | fail)) ?_)
    | (with_reducible refine ck_call ?_; with_reducible refine w_intT cx (by (repeat (first | with_reducible exact In.h | apply In.t)); (first | done | fail)) ?_)
    | (with_reducible refine ck_call ?_; with_reducible refine w_strT cx (by (repeat (first | with_reducible exact In.h | apply In.t)); (first | done | fail)) ?_)
    | (with_reducible refine ck_call ?_; with_reducible refine w_tupleT cx (by (repeat (first | with_reducible exact In.h | apply In.t)); (first | done | fail)) ?_)
    | (with_reducible refine ck_call ?_; with_reducible refine w_listT cx (by (repeat (first | with_reducible exact In.h | apply In.t)); (first | done | fail)) ?_)
    | (with_reducible refine ck_call ?_; with_reducible refine w_dictT cx (by (repeat (first | with_reducible exact In.h | apply In.t)); (first | done | fail)) ?_)
    | (with_reducible refine ck_call ?_; with_reducible refine w_boolT cx (by (repeat (first | with_reducible exact In.h | apply In.t)); (first | done | fail)) ?_)
    | (with_reducible refine ck_atr ?_; with_reducible refine w_attr ?_)
    | with_reducible refine w_un ?_
    | (with_reducible refine ck_cmp ?_; with_reducible refine w_chain ?_)
    | with_reducible refine w_and ?_
    | with_reducible refine w_or ?_
    | with_reducible refine w_bool1 ?_
    | with_reducible refine w_not ?_
    | with_reducible refine w_if ?_
    | with_reducible refine w_bl ?_
    | with_reducible refine w_non ?_
    | with_reducible refine w_joined ?_
    | with_reducible refine w_joined1 ?_
    | with_reducible refine w_fmt ?_)
  | (with_reducible refine ck_a ?_; first
    | with_reducible refine wa_cons ?_
    | with_reducible refine wa_nil ?_)
  | (with_reducible refine ck_s ?_; first
    | (with_reducible refine ck_asgn ?_; with_reducible refine s_set cx ?_)
    | with_reducible refine s_if ?_
    | with_reducible refine s_ret ?_
    | with_reducible refine s_nil ?_
    | (with_reducible refine ck_xpr ?_; with_reducible refine s_expr ?_)
    | (with_reducible refine ck_asgn ?_; with_reducible refine s_asg ?_)
    | with_reducible refine s_pass ?_
    | with_reducible refine s_break ?_
    | with_reducible refine s_cont ?_
    | with_reducible refine s_retN ?_)
  | (with_reducible refine ck_o ?_; first
    | with_reducible refine o_inDg ?_
    | with_reducible refine o_addSn (by repeat (first | with_reducible exact l_emp | with_reducible exact l_en | with_reducible exact l_sp | with_reducible exact l_dir | with_reducible assumption | with_reducible exact l_frt (by first | with_reducible assumption | exact log_ok (by omega)) | with_reducible exact l_int (by first | with_reducible assumption | exact log_ok (by omega)) | with_reducible apply l_app | with_reducible exact Nat.le_refl _)) (by repeat (first | with_reducible exact l_emp | with_reducible exact l_en | with_reducible exact l_sp | with_reducible exact l_dir | with_reducible assumption | with_reducible exact l_frt (by first | with_reducible assumption | exact log_ok (by omega)) | with_reducible exact l_int (by first | with_reducible assumption | exact log_ok (by omega)) | with_reducible apply l_app | with_reducible exact Nat.le_refl _)) (by kernel_rfl) ?_
    | with_reducible refine o_add ?_
    | with_reducible refine o_sub ?_
    | with_reducible refine o_lt ?_
    | with_reducible refine o_le ?_
    | with_reducible refine o_gt ?_
    | with_reducible refine o_ge ?_
    | with_reducible refine o_eqI ?_
    | with_reducible refine o_neI ?_
    | with_reducible refine o_eqS ?_
    | with_reducible refine o_neS ?_
    | with_reducible refine o_neB ?_
    | with_reducible refine o_eqB ?_
    | with_reducible refine o_isN ?_
    | with_reducible refine o_notN ?_
    | with_reducible refine o_mod (by omega) ?_
    | with_reducible refine o_mulL (by omega) ?_
    | with_reducible refine o_mulR (by omega) ?_
    | with_reducible refine o_fdiv (by omega) ?_
    | with_reducible refine o_pow (by simp only [Int.reduceToNat, Int.reducePow]; first | done | rfl) (by omega) (by decide +kernel) ?_
    | with_reducible refine o_neL0 cx (by with_reducible assumption) (by (repeat (first | with_reducible assumption | with_reducible exact Has.h | apply Has.t)); (first | done | fail)) (by (repeat (first | with_reducible assumption | with_reducible exact Has.h | apply Has.t)); (first | done | fail)) ?_
    | with_reducible refine o_fdivB (by omega) ?_)
  | (with_reducible refine ck_c ?_; first
    | with_reducible refine c_all cx (by with_reducible assumption) (by (repeat (first | with_reducible assumption | with_reducible exact Has.h | apply Has.t)); (first | done | fail)) ?_
    | with_reducible refine c_strI (by first | with_reducible assumption | exact log_ok (by omega)) ?_
    | with_reducible refine c_reprI (by first | with_reducible assumption | exact log_ok (by omega)) ?_
    | with_reducible refine c_lenS (Nat.le_trans (by repeat (first | with_reducible exact l_emp | with_reducible exact l_en | with_reducible exact l_sp | with_reducible exact l_dir | with_reducible assumption | with_reducible exact l_frt (by first | with_reducible assumption | exact log_ok (by omega)) | with_reducible exact l_int (by first | with_reducible assumption | exact log_ok (by omega)) | with_reducible apply l_app | with_reducible exact Nat.le_refl _)) (Nat.le_of_ble_eq_true (by kernel_rfl))) ?_
    | with_reducible refine c_max cx ?_
    | with_reducible refine c_min cx ?_
    | with_reducible refine c_abs ?_
    | with_reducible refine c_intI ?_
    | with_reducible refine c_intB ?_
    | with_reducible refine c_strS ?_
    | with_reducible refine c_lenT (by with_reducible assumption) (by (repeat (first | with_reducible assumption | with_reducible exact Ent.h | apply Ent.t)); (first | done | fail)) ?_
    | with_reducible refine c_lenL (by with_reducible assumption) (by (repeat (first | with_reducible assumption | with_reducible exact Has.h | apply Has.t)); (first | done | fail)) ?_
    | with_reducible refine c_lenX (by with_reducible assumption) (by (repeat (first | with_reducible assumption | with_reducible exact Ent.h | apply Ent.t)); (first | done | fail)) ?_
    | with_reducible refine c_lenQ cx (by with_reducible assumption) (by (repeat (first | with_reducible assumption | with_reducible exact Ent.h | apply Ent.t)); (first | done | fail)) ?_)
  | (with_reducible refine ck_x ?_; first
    | with_reducible refine x_tup (by with_reducible assumption) (by (repeat (first | with_reducible assumption | with_reducible exact Ent.h | apply Ent.t)); (first | done | fail)) (by first | with_reducible exact at0 | with_reducible exact at1 | with_reducible exact at2) ?_
    | with_reducible refine x_lst (by with_reducible assumption) (by (repeat (first | with_reducible assumption | with_reducible exact Has.h | apply Has.t)); (first | done | fail)) (by first | with_reducible exact at0 | with_reducible exact at1 | with_reducible exact at2) ?_
    | with_reducible refine x_lstX (by with_reducible assumption) (by (repeat (first | with_reducible assumption | with_reducible exact Ent.h | apply Ent.t)); (first | done | fail)) (by first | with_reducible exact at0 | with_reducible exact at1 | with_reducible exact at2) ?_)
  | (with_reducible refine ck_t ?_; first
    | (with_reducible refine ck_tc ?_; with_reducible refine t_cmp ?_)
    | (with_reducible refine ck_tc ?_; with_reducible refine t_chain ?_)
    | with_reducible refine t_not ?_
    | with_reducible refine t_and ?_
    | with_reducible refine t_or ?_
    | with_reducible refine t_val ?_)
  | (with_reducible refine ck_w ?_; first
    | with_reducible refine ww_and ?_
    | with_reducible refine ww_or ?_
    | with_reducible refine ww_and1 ?_
    | with_reducible refine ww_or1 ?_)
  | (with_reducible refine ck_p ?_; first
    | with_reducible refine p_l0 (by with_reducible assumption) (by (repeat (first | with_reducible assumption | with_reducible exact Put.h | apply Put.t)); (first | done | fail)) ?_
    | with_reducible refine p_l1 (by with_reducible assumption) (by (repeat (first | with_reducible assumption | with_reducible exact Put.h | apply Put.t)); (first | done | fail)) ?_
    | with_reducible refine p_l2 (by with_reducible assumption) (by (repeat (first | with_reducible assumption | with_reducible exact Put.h | apply Put.t)); (first | done | fail)) ?_)
  | (with_reducible refine ck_f ?_; first
    | with_reducible refine f_str (Nat.le_trans (by repeat (first | with_reducible exact l_emp | with_reducible exact l_en | with_reducible exact l_sp | with_reducible exact l_dir | with_reducible assumption | with_reducible exact l_frt (by first | with_reducible assumption | exact log_ok (by omega)) | with_reducible exact l_int (by first | with_reducible assumption | exact log_ok (by omega)) | with_reducible apply l_app | with_reducible exact Nat.le_refl _)) (Nat.le_of_ble_eq_true (by kernel_rfl))) ?_
    | with_reducible refine f_int (by first | with_reducible assumption | exact log_ok (by omega)) ?_)
  | (with_reducible refine ck_j ?_; first
    | with_reducible refine wj_nil ?_
    | with_reducible refine wj_cons ?_)
  | (with_reducible refine ck_g ?_; first
    | (with_reducible refine ck_gn ?_; with_reducible refine g_name cx (by (repeat (first | with_reducible exact SetAt.h | apply SetAt.t)); (first | done | fail)) ?_)
    | (with_reducible refine ck_gx ?_; with_reducible refine g_sub ?_))
  | (with_reducible refine ck_i ?_; first
    | with_reducible refine i_not ?_
    | with_reducible refine i_t (by with_reducible rfl) ?_
    | with_reducible refine i_t ⟨rfl, rfl, rfl⟩ ?_
    | with_reducible refine i_t (by with_reducible assumption) ?_
    | with_reducible refine i_f (by with_reducible assumption) ?_
    | with_reducible refine i_t (by omega) ?_
    | with_reducible refine i_f (by omega) ?_
    | with_reducible refine i_t (by simp only [List.length_cons, List.length_nil]; omega) ?_
    | with_reducible refine i_f (by simp only [List.length_cons, List.length_nil]; omega) ?_)
  | (with_reducible refine ck_i ?_; first
    | with_reducible refine iteT ?_)
  | (with_reducible refine ck_i ?_; first
    | with_reducible refine iteF ?_)
  | (with_reducible refine ck_st ?_; first
    | with_reducible refine k_set (by (repeat (first | with_reducible exact SetAt.h | apply SetAt.t)); (first | done | fail)) ?_)
  | with_reducible refine k_sj (by repeat (first | with_reducible exact l_emp | with_reducible exact l_en | with_reducible exact l_sp | with_reducible exact l_dir | with_reducible assumption | with_reducible exact l_frt (by first | with_reducible assumption | exact log_ok (by omega)) | with_reducible exact l_int (by first | with_reducible assumption | exact log_ok (by omega)) | with_reducible apply l_app | with_reducible exact Nat.le_refl _)) (by kernel_rfl) ?_
  | with_reducible refine k_bl ?_
  | with_reducible refine o_neg ?_
  | with_reducible refine k_sfld (by with_reducible assumption) (by (repeat (first | with_reducible assumption | with_reducible exact Put.h | apply Put.t)); (first | done | fail)) (by repeat (first | with_reducible exact FL.z | apply FL.s)) (by with_unfolding_all rfl) ?_
  | with_reducible refine gs_nil ?_
  | with_reducible refine gs_cons ?_
  | (with_reducible refine ⟨_, _, _, (by with_reducible assumption), (by with_unfolding_all exact Nat.le_of_ble_eq_true rfl), ?_⟩; intro p H kn)
  | (with_reducible intro H kn))
/-! number_of -/
def isDg (c : Nat) : Bool := decide (c ∈ ("0123456789" : Str).cps.toList)
def okNum (z : Str) : Bool := decide (1 ≤ z.length) && decide (z.length ≤ 19) && z.cps.toList.all isDg && !decide (z.cps.toList.head? = some 48)
def numOf (z : Str) : V := if okNum z = true then .int ((NumText.digitsVal z.cps.toList : Nat) : Int) else .non
structure NumT (mg : Str → Option Value) : Prop where
  dg : ∃ t, mg "DIGITS" = some (.str "0123456789" t)
  mo : ∃ t, mg "MOST_DIGITS" = some (.int 19 t)
theorem isDg_iff {c : Nat} : isDg c = true ↔ 48 ≤ c ∧ c ≤ 57 := by
  have e : ("0123456789" : Str).cps.toList = [48, 49, 50, 51, 52, 53, 54, 55, 56, 57] := by decide +kernel
  unfold isDg
  rw [e, decide_eq_true_iff]
  simp only [List.mem_cons, List.not_mem_nil, or_false]
  omega
def spNum : Sp := fun vs H Q _ => ∃ (z : Str) (R : Hp → Prop) (N : List (Addr × (HO → Prop))) (L : List (Addr × Obj)), vs = [.str z] ∧ z.length ≤ 100000 ∧ Kn R N L H ∧ ∀ H', Kn R N L H' → Q (numOf z) H'
section
variable {P : Program} {w : World} {K : PySem.W.Frag} {mg : Str → Option Value} {base : Heap}
section
variable {k : Nat} {VL AL : List (Option Str)} {GL : List Str} {E : WX} {E' : XK} {X : Cx} {σ : St} {H : Hp} {Q : VK} {pos : Pos} {R : Hp → Prop} {M : List (Addr × (HO → Prop))} {L : List (Addr × Obj)} {a : Addr}
theorem o_inDg {c : Nat} (h : Q (.bl (isDg c)) H) : Wop X (compareOp .In) (.str ⟨#[c]⟩) (.str "0123456789") H Q := ofOp op_in_sign ⟨c, _, rfl, rfl, h⟩
theorem w_DIG (cx : CxI P w K mg base k VL AL GL E X) (T : NumT mg) (hg : In ("DIGITS" : Str) GL) (h : Q (.str "0123456789") H) : We X (.Name "DIGITS" pos) σ H Q := by
  obtain ⟨t, e⟩ := T.dg
  exact w_glob (v := .str "0123456789") cx hg e ⟨t, rfl⟩ h
theorem w_MOST (cx : CxI P w K mg base k VL AL GL E X) (T : NumT mg) (hg : In ("MOST_DIGITS" : Str) GL) (h : Q (.int 19) H) : We X (.Name "MOST_DIGITS" pos) σ H Q := by
  obtain ⟨t, e⟩ := T.mo
  exact w_glob (v := .int 19) cx hg e ⟨t, rfl⟩ h
theorem c_all (cx : CxI P w K mg base k VL AL GL E X) (kn : Kn R M L H) {bs : List Bool} (en : Has a (Is (.lst (bs.map V.bl))) M) (h : Q (.bl (bs.all id)) H) : Wcall X (.builtin "all") [.ref a] H Q := by
  have e3 := cx.eK
  subst e3
  exact ofCall (cr_all cx.calm) ⟨a, bs, rfl, .inl (.inl (kn.is en)), h⟩
theorem c_intS {z : Str} {n : Int} (hn : intText? z = some n) (hl : z.length ≤ 640) (h : Q (.int n) H) : Wcall X (.type "int") [.str z] H Q := ofCall call_int_str ⟨z, n, rfl, hn, hl, h⟩
end
theorem ok_number {fa : Addr} {fd : FuncData} (F : Fun K "number_of" "number_of" s_number_of fa fd) (bl : ∀ x ∈ blts, mg x = none) (T : NumT mg) : Fk P w K mg base 1 fa fd ["text"] spNum := by
  refine fn_okC F sc_number_of nq_number_of ck_number_of bl (fun vs H Q E h => ?_) (fun X H vs Q E cx cn h => ?_)
  · obtain ⟨z, R, N, L, rfl, _⟩ := h
    rfl
  · obtain ⟨z, R, N, L, rfl, hl, kn, k⟩ := h
    have hz : z.length ≤ sizeLine := Nat.le_trans hl (by decide)
    unfold numOf okNum at k
    change Wss X _ _ [_, _] _
    refine s_if ?_
    repeat walk_at "k"
    repeat walk_at "k"
    refine i_2 (fun h1 => ?_) (fun h1 => ?_)
    · repeat walk_at "k"
      refine i_2 (fun h2 => ?_) (fun h2 => ?_)
      · repeat walk_at "k"
        refine w_lc0 bo_number_of_0 bv_number_of_0 ba_number_of_0 bg_number_of_0 cx cn (by kernel_rfl) ?_
        refine wi_str ?_
        repeat walk_at "k"
        refine ⟨z, rfl, _, _, _, itw_str, fun D i acc H => acc = ((z.cps.toList.take i).map fun c => isDg c).map V.bl ∧ Kn R ((D, Is (.lst acc)) :: N) L H, ⟨_, _, _, kn, fun D H2 kn => ⟨rfl, kn⟩⟩, fun _ _ _ _ _ _ => trivial, ?_, ?_⟩
        · intro D i acc H hi ⟨ha, kn⟩ X cx
          change Wg X _ _ [_, _] _ _
          refine g_name cx (by repeat (first | with_reducible exact SetAt.h | apply SetAt.t)) ?_
          refine ⟨rfl, fun X cx cn => ?_⟩
          repeat walk_at "k"
          refine ⟨_, _, _, kn, ?_, fun H5 kn => ⟨?_, kn⟩⟩
          · subst ha
            rw [List.length_map, List.length_map, List.length_take]
            have q : z.cps.toList.length = z.length := rfl
            omega
          · have q : z.cps.toList[i]? = some (z.cps.getD i 0) := by
              have q' : i < z.cps.size := hi
              simp [q', Array.getD]
            subst ha
            rw [List.take_add_one, q]
            simp
        · intro D acc H ⟨ha, kn⟩
          subst ha
          have e : z.cps.toList.take z.cps.size = z.cps.toList := List.take_of_length_le (Nat.le_refl _)
          rw [e] at kn
          repeat walk_at "k"
          have e2 : (z.cps.toList.map fun c => isDg c).all id = z.cps.toList.all isDg := by rw [List.all_map]; rfl
          rw [e2]
          refine i_b (fun h3 => ?_) (fun h3 => ?_)
          · repeat walk_at "k"
            have z0 : (0 : Int) < (z.cps.toList.length : Int) := by
              have q : z.cps.toList.length = z.length := rfl
              omega
            obtain ⟨c, hc⟩ := atI_lt (xs := z.cps.toList) (Int.le_refl 0) z0
            refine x_str hz hc ?_
            have hc' : z.cps.toList.head? = some c := by
              unfold atI ixN at hc
              rw [if_pos (by decide), if_pos z0] at hc
              have hc2 : z.cps.toList[0]? = some c := hc
              rw [← List.head?_eq_getElem?] at hc2
              exact hc2
            repeat walk_at "k"
            have e4 : ((⟨#[c]⟩ : Str) = "0") ↔ c = 48 := by
              have q : ("0" : Str) = ⟨#[48]⟩ := by decide +kernel
              rw [q]
              simp
            refine i_2 (fun h4 => ?_) (fun h4 => ?_)
            · repeat walk_at "k"
              rw [e4] at h4
              rw [hc', h4] at k
              simp only [decide_true, Bool.not_true, Bool.and_false, Bool.false_eq_true, if_false] at k
              exact k _ kn.drop1
            · repeat walk_at "k"
              rw [e4] at h4
              have ok : (decide (1 ≤ z.length) && decide (z.length ≤ 19) && z.cps.toList.all isDg && !decide (z.cps.toList.head? = some 48)) = true := by
                have a1 : 1 ≤ z.length := by omega
                have a2 : z.length ≤ 19 := by omega
                rw [hc', h3]
                simp [a1, a2, h4]
              rw [ok, if_pos rfl] at k
              refine c_intS (PySem.intText_digits (x := z) (fun c hc => ?_) ?_ ?_) ?_ (k _ kn.drop1)
              · exact isDg_iff.mp (List.all_eq_true.mp h3 c hc)
              · intro q
                rw [q] at hc'
                cases hc'
              · omega
              · omega
          · repeat walk_at "k"
            rw [h3] at k
            simp only [Bool.and_false, Bool.false_and, Bool.false_eq_true, if_false] at k
            exact k _ kn.drop1
      · repeat walk_at "k"
        have a2 : ¬ z.length ≤ 19 := by omega
        simp only [a2, decide_false, Bool.and_false, Bool.false_and, Bool.false_eq_true, if_false] at k
        exact k _ kn
    · repeat walk_at "k"
      have a1 : ¬ 1 ≤ z.length := by omega
      simp only [a1, decide_false, Bool.false_and, Bool.false_eq_true, if_false] at k
      exact k _ kn
end

end
end U

namespace U
section
open PySem PySem.Spec L2
open PySem.W (findIn isFn mroIn Looks InstAt)
open PyProof.Rows hiding St
set_option hygiene false
local macro_rules | `(tactic| walk_at "w") => `(tactic| repeat (first
  | (with_reducible refine ck_e ?_; first
    | (with_reducible refine ck_nm ?_; with_reducible refine w_SIGNS cx T (by (repeat (first | with_reducible exact In.h | apply In.t)); (first | done | fail)) ?_)
    | (with_reducible refine ck_nm ?_; with_reducible refine w_Frame cx T (by (repeat (first | with_reducible exact In.h | apply In.t)); (first | done | fail)) ?_)
    | (with_reducible refine ck_call ?_; with_reducible refine w_call cx (by (repeat (first | with_reducible exact In.h | apply In.t)); (first | done | fail)) D1 (by kernel_rfl) ?_)
    | (with_reducible refine ck_call ?_; with_reducible refine w_make cx (by (repeat (first | with_reducible exact In.h | apply In.t)); (first | done | fail)) DF (by kernel_rfl) ?_)
    | (with_reducible refine ck_call ?_; with_reducible refine w_call cx (by (repeat (first | with_reducible exact In.h | apply In.t)); (first | done | fail)) D0 (by kernel_rfl) ?_)
    | (with_reducible refine ck_call ?_; with_reducible refine w_call cx (by (repeat (first | with_reducible exact In.h | apply In.t)); (first | done | fail)) D1 (by kernel_rfl) ?_)
    | (with_reducible refine ck_call ?_; with_reducible refine w_call cx (by (repeat (first | with_reducible exact In.h | apply In.t)); (first | done | fail)) D2 (by kernel_rfl) ?_)
    | (with_reducible refine ck_call ?_; with_reducible refine w_call cx (by (repeat (first | with_reducible exact In.h | apply In.t)); (first | done | fail)) D3 (by kernel_rfl) ?_)
    | (with_reducible refine ck_call ?_; with_reducible refine w_call cx (by (repeat (first | with_reducible exact In.h | apply In.t)); (first | done | fail)) D4 (by kernel_rfl) ?_)
    | (with_reducible refine ck_call ?_; with_reducible refine w_call cx (by (repeat (first | with_reducible exact In.h | apply In.t)); (first | done | fail)) D5 (by kernel_rfl) ?_)
    | (with_reducible refine ck_call ?_; with_reducible refine w_call cx (by (repeat (first | with_reducible exact In.h | apply In.t)); (first | done | fail)) D6 (by kernel_rfl) ?_)
    | (with_reducible refine ck_call ?_; with_reducible refine w_call cx (by (repeat (first | with_reducible exact In.h | apply In.t)); (first | done | fail)) D7 (by kernel_rfl) ?_)
    | (with_reducible refine ck_call ?_; with_reducible refine w_call cx (by (repeat (first | with_reducible exact In.h | apply In.t)); (first | done | fail)) D8 (by kernel_rfl) ?_)
    | (with_reducible refine ck_call ?_; with_reducible refine w_call cx (by (repeat (first | with_reducible exact In.h | apply In.t)); (first | done | fail)) D9 (by kernel_rfl) ?_)
    | (with_reducible refine ck_nm ?_; with_reducible refine w_var cx (by (repeat (first | with_reducible exact SlotIs.h | apply SlotIs.t)); (first | done | fail)) ?_)
    | with_reducible refine w_int ?_
    | with_reducible refine w_bin ?_
    | (with_reducible refine ck_ix ?_; with_reducible refine w_ix ?_)
    | (with_reducible refine ck_cmp ?_; with_reducible refine w_cmp ?_)
    | with_reducible refine w_str ?_
    | with_reducible refine w_tupK ?_
    | with_reducible refine w_lstK ?_
    | (with_reducible refine ck_call ?_; with_reducible refine w_len cx (by (repeat (first | with_reducible exact In.h | apply In.t)); (first | done | fail)) ?_)
    | (with_reducible refine ck_call ?_; with_reducible refine w_max cx (by (repeat (first | with_reducible exact In.h | apply In.t)); (first | done | fail)) ?_)
    | (with_reducible refine ck_call ?_; with_reducible refine w_min cx (by (repeat (first | with_reducible exact In.h | apply In.t)); (first | done | fail)) ?_)
    | (with_reducible refine ck_call ?_; with_reducible refine w_abs cx (by (repeat (first | with_reducible exact In.h | apply In.t)); (first | done | fail)) ?_)
    | (with_reducible refine ck_call ?_; with_reducible refine w_repr cx (by (repeat (first | with_reducible exact In.h | apply In.t)); (first | done | fail)) ?_)
    | (with_reducible refine ck_call ?_; with_reducible refine w_isinstance cx (by (repeat (first | with_reducible exact In.h | apply In.t)); (first | done | fail)) ?_)
    | (with_reducible refine ck_call ?_; with_reducible refine w_sorted cx (by (repeat (first | with_reducible exact In.h | apply In.t)); (first | done | fail)) ?_)
    | (with_reducible refine ck_call ?_; with_reducible refine w_all cx (by (repeat (first | with_reducible exact In.h | apply In.t)); (first | done | fail)) ?_)
    | (with_reducible refine ck_call ?_; with_reducible refine w_any cx (by (repeat (first | with_reducible exact In.h | apply In.t)); (first | done | fail)) ?_)
    | (with_reducible refine ck_call ?_; with_reducible refine w_sum cx (by (repeat (first | with_reducible exact In.h | apply In.t)); (first | done | fail)) ?_)
    | (with_reducible refine ck_call ?_; with_reducible refine w_intT cx (by (repeat (first | with_reducible exact In.h | apply In.t)); (first | done | fail)) ?_)
    | (with_reducible refine ck_call ?_; with_reducible refine w_strT cx (by (repeat (first | with_reducible exact In.h | apply In.t)); (first | done | fail)) ?_)
    | (with_reducible refine ck_call ?_; with_reducible refine w_tupleT cx (by (repeat (first | with_reducible exact In.h | apply In.t)); (first | done | fail)) ?_)
    | (with_reducible refine ck_call ?_; with_reducible refine w_listT cx (by (repeat (first | with_reducible exact In.h | apply In.t)); (first | done | fail)) ?_)
    | (with_reducible refine ck_call ?_; with_reducible refine w_dictT cx (by (repeat (first | with_reducible exact In.h | apply In.t)); (first | done | fail)) ?_)
    | (with_reducible refine ck_call ?_; with_reducible refine w_boolT cx (by (repeat (first | with_reducible exact In.h | apply In.t)); (first | done | fail)) ?_)
    | (with_reducible refine ck_atr ?_; with_reducible refine w_attr ?_)
    | with_reducible refine w_un ?_
    | (with_reducible refine ck_cmp ?_; with_reducible refine w_chain ?_)
    | with_reducible refine w_and ?_
    | with_reducible refine w_or ?_
    | with_reducible refine w_bool1 ?_
    | with_reducible refine w_not ?_
    | with_reducible refine w_if ?_
    | with_reducible refine w_bl ?_
    | with_reducible refine w_non ?_
    | with_reducible refine w_joined ?_
    | with_reducible refine w_joined1 ?_
    | with_reducible refine w_fmt ?_)
  | (with_reducible refine ck_a ?_; first
    | with_reducible refine wa_cons ?_
    | with_reducible refine wa_nil ?_)
  | (with_reducible refine ck_s ?_; first
    | with_reducible refine s_fld cx T.cl T.n1 ?_
    | with_reducible refine s_fld cx T.cl T.n2 ?_
    | with_reducible refine s_fld cx T.cl T.n3 ?_
    | with_reducible refine s_fld cx T.cl T.n4 ?_
    | with_reducible refine s_fld cx T.cl T.n5 ?_
    | (with_reducible refine ck_asgn ?_; with_reducible refine s_set cx ?_)
    | with_reducible refine s_if ?_
    | with_reducible refine s_ret ?_
    | with_reducible refine s_nil ?_
    | (with_reducible refine ck_xpr ?_; with_reducible refine s_expr ?_)
    | (with_reducible refine ck_asgn ?_; with_reducible refine s_asg ?_)
    | with_reducible refine s_pass ?_
    | with_reducible refine s_break ?_
    | with_reducible refine s_cont ?_
    | with_reducible refine s_retN ?_)
  | (with_reducible refine ck_o ?_; first
    | with_reducible refine o_ninSg cx T ?_
    | with_reducible refine o_addSn (by repeat (first | with_reducible exact l_emp | with_reducible exact l_en | with_reducible exact l_sp | with_reducible exact l_dir | with_reducible assumption | with_reducible exact l_frt (by first | with_reducible assumption | exact log_ok (by omega)) | with_reducible exact l_int (by first | with_reducible assumption | exact log_ok (by omega)) | with_reducible apply l_app | with_reducible exact Nat.le_refl _)) (by repeat (first | with_reducible exact l_emp | with_reducible exact l_en | with_reducible exact l_sp | with_reducible exact l_dir | with_reducible assumption | with_reducible exact l_frt (by first | with_reducible assumption | exact log_ok (by omega)) | with_reducible exact l_int (by first | with_reducible assumption | exact log_ok (by omega)) | with_reducible apply l_app | with_reducible exact Nat.le_refl _)) (by kernel_rfl) ?_
    | with_reducible refine o_add ?_
    | with_reducible refine o_sub ?_
    | with_reducible refine o_lt ?_
    | with_reducible refine o_le ?_
    | with_reducible refine o_gt ?_
    | with_reducible refine o_ge ?_
    | with_reducible refine o_eqI ?_
    | with_reducible refine o_neI ?_
    | with_reducible refine o_eqS ?_
    | with_reducible refine o_neS ?_
    | with_reducible refine o_neB ?_
    | with_reducible refine o_eqB ?_
    | with_reducible refine o_isN ?_
    | with_reducible refine o_notN ?_
    | with_reducible refine o_mod (by omega) ?_
    | with_reducible refine o_mulL (by omega) ?_
    | with_reducible refine o_mulR (by omega) ?_
    | with_reducible refine o_fdiv (by omega) ?_
    | with_reducible refine o_pow (by simp only [Int.reduceToNat, Int.reducePow]; first | done | rfl) (by omega) (by decide +kernel) ?_
    | with_reducible refine o_neL0 cx (by with_reducible assumption) (by (repeat (first | with_reducible assumption | with_reducible exact Has.h | apply Has.t)); (first | done | fail)) (by (repeat (first | with_reducible assumption | with_reducible exact Has.h | apply Has.t)); (first | done | fail)) ?_
    | with_reducible refine o_fdivB (by omega) ?_)
  | (with_reducible refine ck_c ?_; first
    | with_reducible refine c_strI (by first | with_reducible assumption | exact log_ok (by omega)) ?_
    | with_reducible refine c_reprI (by first | with_reducible assumption | exact log_ok (by omega)) ?_
    | with_reducible refine c_lenS (Nat.le_trans (by repeat (first | with_reducible exact l_emp | with_reducible exact l_en | with_reducible exact l_sp | with_reducible exact l_dir | with_reducible assumption | with_reducible exact l_frt (by first | with_reducible assumption | exact log_ok (by omega)) | with_reducible exact l_int (by first | with_reducible assumption | exact log_ok (by omega)) | with_reducible apply l_app | with_reducible exact Nat.le_refl _)) (Nat.le_of_ble_eq_true (by kernel_rfl))) ?_
    | with_reducible refine c_max cx ?_
    | with_reducible refine c_min cx ?_
    | with_reducible refine c_abs ?_
    | with_reducible refine c_intI ?_
    | with_reducible refine c_intB ?_
    | with_reducible refine c_strS ?_
    | with_reducible refine c_lenT (by with_reducible assumption) (by (repeat (first | with_reducible assumption | with_reducible exact Ent.h | apply Ent.t)); (first | done | fail)) ?_
    | with_reducible refine c_lenL (by with_reducible assumption) (by (repeat (first | with_reducible assumption | with_reducible exact Has.h | apply Has.t)); (first | done | fail)) ?_
    | with_reducible refine c_lenX (by with_reducible assumption) (by (repeat (first | with_reducible assumption | with_reducible exact Ent.h | apply Ent.t)); (first | done | fail)) ?_
    | with_reducible refine c_lenQ cx (by with_reducible assumption) (by (repeat (first | with_reducible assumption | with_reducible exact Ent.h | apply Ent.t)); (first | done | fail)) ?_)
  | (with_reducible refine ck_x ?_; first
    | with_reducible refine x_Sg cx T ?_
    | with_reducible refine x_tup (by with_reducible assumption) (by (repeat (first | with_reducible assumption | with_reducible exact Ent.h | apply Ent.t)); (first | done | fail)) (by first | with_reducible exact at0 | with_reducible exact at1 | with_reducible exact at2) ?_
    | with_reducible refine x_lst (by with_reducible assumption) (by (repeat (first | with_reducible assumption | with_reducible exact Has.h | apply Has.t)); (first | done | fail)) (by first | with_reducible exact at0 | with_reducible exact at1 | with_reducible exact at2) ?_
    | with_reducible refine x_lstX (by with_reducible assumption) (by (repeat (first | with_reducible assumption | with_reducible exact Ent.h | apply Ent.t)); (first | done | fail)) (by first | with_reducible exact at0 | with_reducible exact at1 | with_reducible exact at2) ?_)
  | (with_reducible refine ck_at ?_; first
    | with_reducible refine at_most cx T ?_
    | with_reducible refine at_pieces cx T (by with_reducible assumption) (by (repeat (first | with_reducible assumption | with_reducible exact Ent.h | apply Ent.t)); (first | done | fail)) ?_
    | with_reducible refine at_front cx T (by with_reducible assumption) (by (repeat (first | with_reducible assumption | with_reducible exact Ent.h | apply Ent.t)); (first | done | fail)) ?_
    | with_reducible refine at_back cx T (by with_reducible assumption) (by (repeat (first | with_reducible assumption | with_reducible exact Ent.h | apply Ent.t)); (first | done | fail)) ?_
    | with_reducible refine at_fs cx T (by with_reducible assumption) (by (repeat (first | with_reducible assumption | with_reducible exact Ent.h | apply Ent.t)); (first | done | fail)) ?_
    | with_reducible refine at_bs cx T (by with_reducible assumption) (by (repeat (first | with_reducible assumption | with_reducible exact Ent.h | apply Ent.t)); (first | done | fail)) ?_)
  | (with_reducible refine ck_t ?_; first
    | (with_reducible refine ck_tc ?_; with_reducible refine t_cmp ?_)
    | (with_reducible refine ck_tc ?_; with_reducible refine t_chain ?_)
    | with_reducible refine t_not ?_
    | with_reducible refine t_and ?_
    | with_reducible refine t_or ?_
    | with_reducible refine t_val ?_)
  | (with_reducible refine ck_w ?_; first
    | with_reducible refine ww_and ?_
    | with_reducible refine ww_or ?_
    | with_reducible refine ww_and1 ?_
    | with_reducible refine ww_or1 ?_)
  | (with_reducible refine ck_p ?_; first
    | with_reducible refine p_l0 (by with_reducible assumption) (by (repeat (first | with_reducible assumption | with_reducible exact Put.h | apply Put.t)); (first | done | fail)) ?_
    | with_reducible refine p_l1 (by with_reducible assumption) (by (repeat (first | with_reducible assumption | with_reducible exact Put.h | apply Put.t)); (first | done | fail)) ?_
    | with_reducible refine p_l2 (by with_reducible assumption) (by (repeat (first | with_reducible assumption | with_reducible exact Put.h | apply Put.t)); (first | done | fail)) ?_)
  | (with_reducible refine ck_f ?_; first
    | with_reducible refine f_str (Nat.le_trans (by repeat (first | with_reducible exact l_emp | with_reducible exact l_en | with_reducible exact l_sp | with_reducible exact l_dir | with_reducible assumption | with_reducible exact l_frt (by first | with_reducible assumption | exact log_ok (by omega)) | with_reducible exact l_int (by first | with_reducible assumption | exact log_ok (by omega)) | with_reducible apply l_app | with_reducible exact Nat.le_refl _)) (Nat.le_of_ble_eq_true (by kernel_rfl))) ?_
    | with_reducible refine f_int (by first | with_reducible assumption | exact log_ok (by omega)) ?_)
  | (with_reducible refine ck_j ?_; first
    | with_reducible refine wj_nil ?_
    | with_reducible refine wj_cons ?_)
  | (with_reducible refine ck_g ?_; first
    | (with_reducible refine ck_gn ?_; with_reducible refine g_name cx (by (repeat (first | with_reducible exact SetAt.h | apply SetAt.t)); (first | done | fail)) ?_)
    | (with_reducible refine ck_gx ?_; with_reducible refine g_sub ?_))
  | (with_reducible refine ck_i ?_; first
    | with_reducible refine i_not ?_
    | with_reducible refine i_t (by with_reducible rfl) ?_
    | with_reducible refine i_t ⟨rfl, rfl, rfl⟩ ?_
    | with_reducible refine i_t (by with_reducible assumption) ?_
    | with_reducible refine i_f (by with_reducible assumption) ?_
    | with_reducible refine i_t (by omega) ?_
    | with_reducible refine i_f (by omega) ?_
    | with_reducible refine i_t (by simp only [List.length_cons, List.length_nil]; omega) ?_
    | with_reducible refine i_f (by simp only [List.length_cons, List.length_nil]; omega) ?_)
  | (with_reducible refine ck_i ?_; first
    | with_reducible refine iteT ?_)
  | (with_reducible refine ck_i ?_; first
    | with_reducible refine iteF ?_)
  | (with_reducible refine ck_st ?_; first
    | with_reducible refine k_set (by (repeat (first | with_reducible exact SetAt.h | apply SetAt.t)); (first | done | fail)) ?_)
  | with_reducible refine k_Frame (by with_reducible assumption) (by omega) (by omega) (fun p H kn => ?_)
  | with_reducible refine k_sj (by repeat (first | with_reducible exact l_emp | with_reducible exact l_en | with_reducible exact l_sp | with_reducible exact l_dir | with_reducible assumption | with_reducible exact l_frt (by first | with_reducible assumption | exact log_ok (by omega)) | with_reducible exact l_int (by first | with_reducible assumption | exact log_ok (by omega)) | with_reducible apply l_app | with_reducible exact Nat.le_refl _)) (by kernel_rfl) ?_
  | with_reducible refine k_bl ?_
  | with_reducible refine o_neg ?_
  | with_reducible refine k_sfld (by with_reducible assumption) (by (repeat (first | with_reducible assumption | with_reducible exact Put.h | apply Put.t)); (first | done | fail)) (by repeat (first | with_reducible exact FL.z | apply FL.s)) (by with_unfolding_all rfl) ?_
  | with_reducible refine gs_nil ?_
  | with_reducible refine gs_cons ?_
  | (with_reducible refine ⟨_, _, _, (by with_reducible assumption), (by with_unfolding_all exact Nat.le_of_ble_eq_true rfl), ?_⟩; intro p H kn)
  | (with_reducible intro H kn)))
/-! k03: texts parsed, right or wrong -/
def part (ls : List Str) (i : Nat) : Str := ls.getD i ""
def numV (y : Str) : Int := ((NumText.digitsVal y.cps.toList : Nat) : Int)
def okN (ls : List Str) : Prop := 1 < ls.length ∧ okNum (part ls 1) = true ∧ numV (part ls 1) ≤ 1000000000000000000
instance {ls : List Str} : Decidable (okN ls) := inferInstanceAs (Decidable (_ ∧ _ ∧ _))
/-- the first wrong part -/
def badP (ls : List Str) : Option Int := if ¬ isEnd (part ls 0) then some 0 else if ¬ okN ls then some 1 else if ¬ (3 ≤ ls.length ∧ isEnd (part ls 2)) then some 2 else if 3 < ls.length then some 3 else none
theorem at_part {ls : List Str} {j : Nat} (h : j < ls.length) : atI (ls.map V.str) (j : Int) = some (.str (part ls j)) := by
  unfold atI ixN part
  rw [if_pos (by omega), if_pos (by rw [List.length_map]; omega)]
  simp [h]
theorem num_pos {y : Str} (h : okNum y = true) : 1 ≤ numV y := by
  unfold okNum at h
  simp only [Bool.and_eq_true, decide_eq_true_eq, Bool.not_eq_true', decide_eq_false_iff_not] at h
  obtain ⟨⟨⟨h1, _⟩, h3⟩, h4⟩ := h
  unfold numV
  cases e : y.cps.toList with
  | nil =>
    have q : y.cps.toList.length = y.length := rfl
    rw [e] at q
    simp at q
    omega
  | cons c cs =>
    rw [e] at h3 h4
    have hc := isDg_iff.mp (List.all_eq_true.mp h3 c List.mem_cons_self)
    have h4' : ¬ c = 48 := fun z => h4 (by rw [z]; rfl)
    have := NumText.digitsVal_pos (c := c) (cs := cs) (by omega)
    omega
theorem part_len {z : Str} {j : Nat} {n : Nat} (hz : z.length ≤ n) : (part (Txt.split z " ") j).length ≤ n := by
  unfold part
  by_cases h : j < (Txt.split z " ").length
  · have hm : (Txt.split z " ").getD j "" ∈ Txt.split z " " := by
      rw [List.getD_eq_getElem?_getD, List.getElem?_eq_getElem h]
      exact List.getElem_mem h
    exact Nat.le_trans (PyProof.Rows.part_short hm) hz
  · rw [List.getD_eq_getElem?_getD, List.getElem?_eq_none (by omega)]
    exact Nat.zero_le _
def spParseG (C Dt : Addr) : Sp := fun vs H Q E => ∃ (z : Str) (R : Hp → Prop) (N : List (Addr × (HO → Prop))) (L : List (Addr × Obj)), vs = [.ref C, .str z] ∧ z.length ≤ 90000 ∧ Kn R N L H ∧
  (badP (Txt.split z " ") = none → ∀ a H', Kn (Cj (IsFr C a (numV (part (Txt.split z " ") 1)) (isFree (part (Txt.split z " ") 0)) (isFree (part (Txt.split z " ") 2))) R) N L H' → Q (.ref a) H') ∧ ∀ i, badP (Txt.split z " ") = some i → Ra E Dt "index" (.int i) R N L
section
variable {P : Program} {w : World} {K : PySem.W.Frag} {mg : Str → Option Value} {base : Heap} {C d Bf Dt : Addr}
theorem k_num {z : Str} {R : Hp → Prop} {N : List (Addr × (HO → Prop))} {L : List (Addr × Obj)} {H : Hp} {Q : VK} {E : XK} (kn : Kn R N L H) (hl : z.length ≤ 100000) (h : ∀ H', Kn R N L H' → Q (numOf z) H') : spNum [.str z] H Q E := ⟨z, R, N, L, rfl, hl, kn, h⟩
theorem ok_parseG {fa : Addr} {fd : FuncData} (F : Fun K "parse" "Frame.parse" s_Frame_parse fa fd) (bl : ∀ x ∈ blts, mg x = none) (T : FrT K w mg C d) (DX : ExC P w K mg base Dt "BadText" "index" 1 LgI) (D1 : Df P w K mg base "number_of" 1 ["text"] spNum) (DF : Cl P w K mg base C "Frame" 3 ["self", "pieces", "front", "back"] (spFrG C Bf)) :
    Fk P w K mg base 5 fa fd ["cls", "text"] (spParseG C Dt) := by
  refine fn_okW F sc_Frame_parse nq_Frame_parse ck_Frame_parse bl (fun vs H Q E h => ?_) (fun X H vs Q E cx h => ?_)
  · obtain ⟨z, R, N, L, rfl, _⟩ := h
    rfl
  · obtain ⟨z, R, N, L, rfl, hz, kn, k, kb⟩ := h
    have l0 := PyProof.Rows.split_pos z " "
    have l1 := PyProof.Rows.split_le z " "
    have pl : ∀ j, (part (Txt.split z " ") j).length ≤ 90000 := fun j => part_len hz
    change Wss X _ _ [_, _, _, _] _
    refine s_set cx ?_
    refine w_split cx ?_
    walk_at "w"
    refine ⟨z, rfl, ?_⟩
    walk_at "w"
    refine ⟨_, _, _, _, rfl, by decide +kernel, by rw [PySem.sizeLine_eq]; omega, kn, fun p H kn => ?_⟩
    revert k kb pl l0 l1 kn
    generalize Txt.split z " " = ls
    intro k kb l0 l1 pl kn
    have hl : (ls.map V.str).length = ls.length := List.length_map _
    have bad : ∀ {i : Int} {H : Hp}, badP ls = some i → i.natAbs.log2 < 1920 → Kn R ((p, Is (.lst (ls.map V.str))) :: N) L H → LgI (.int i) ∧ ∃ R' N' L', Kn R' N' L' H ∧ ∀ dd H2, Kn (Cj (Ex dd (.xd [("index", .int i)])) R') N' L' H2 → E (.ref Dt) (some dd) H2 :=
      fun {i H} hz hl kn => ⟨⟨_, rfl, hl⟩, _, _, _, kn.drop1, kb i hz⟩
    walk_at "w"
    refine x_lst kn (by walk_at "has") (at_part (j := 0) (by omega)) ?_
    by_cases h0 : isEnd (part ls 0)
    · have h0' : part ls 0 = "fixed" ∨ part ls 0 = "free" := h0
      walk_at "w"
      have wrong1 : ∀ {H : Hp}, ¬ okN ls → Kn R ((p, Is (.lst (ls.map V.str))) :: N) L H → _ := fun {H} hk kn => bad (by unfold badP; rw [if_neg (not_not_intro h0), if_pos hk] : badP ls = some 1) (by decide +kernel) kn
      refine i_2 (fun h1 => ?_) (fun h1 => ?_)
      · have h1' : 1 < ls.length := by omega
        walk_at "w"
        refine x_lst kn (by walk_at "has") (at_part (j := 1) h1') ?_
        walk_at "w"
        refine k_num kn (Nat.le_trans (pl 1) (by decide)) fun H kn => ?_
        unfold numOf
        by_cases ho : okNum (part ls 1) = true
        · have hp1 := num_pos ho
          rw [if_pos ho]
          change 1 ≤ ((NumText.digitsVal (part ls 1).cps.toList : Nat) : Int) at hp1
          walk_at "w"
          refine i_f (by intro q; cases q) ?_
          walk_at "w"
          refine i_2 (fun h2 => ?_) (fun h2 => ?_)
          · walk_at "w"
            refine s_raiseK cx DX (by walk_at "in") (by kernel_rfl) ?_
            walk_at "w"
            exact wrong1 (fun z => by have := z.2.2; unfold numV at this; omega) kn
          · have hok : okN ls := ⟨h1', ho, by unfold numV; omega⟩
            walk_at "w"
            refine i_2 (fun h3 => ?_) (fun h3 => ?_)
            · walk_at "w"
              refine s_raiseK cx DX (by walk_at "in") (by kernel_rfl) ?_
              walk_at "w"
              exact bad (by unfold badP; rw [if_neg (not_not_intro h0), if_neg (not_not_intro hok), if_pos (fun z => absurd z.1 (by omega))]) (by decide +kernel) kn
            · have h3' : 3 ≤ ls.length := by omega
              walk_at "w"
              refine x_lst kn (by walk_at "has") (at_part (j := 2) (by omega)) ?_
              by_cases h4 : isEnd (part ls 2)
              · have h4' : part ls 2 = "fixed" ∨ part ls 2 = "free" := h4
                walk_at "w"
                refine i_2 (fun h5 => ?_) (fun h5 => ?_)
                · walk_at "w"
                  refine s_raiseK cx DX (by walk_at "in") (by kernel_rfl) ?_
                  walk_at "w"
                  exact bad (by unfold badP; rw [if_neg (not_not_intro h0), if_neg (not_not_intro hok), if_neg (not_not_intro ⟨h3', h4⟩), if_pos (by omega)]) (by decide +kernel) kn
                · walk_at "w"
                  refine w_makeL cx (by walk_at "slot") DF (by kernel_rfl) ?_
                  walk_at "w"
                  refine x_lst kn (by walk_at "has") (at_part (j := 0) (by omega)) ?_
                  walk_at "w"
                  refine x_lst kn (by walk_at "has") (at_part (j := 2) (by omega)) ?_
                  walk_at "w"
                  have hb : badP ls = none := by
                    unfold badP
                    rw [if_neg (not_not_intro h0), if_neg (not_not_intro hok), if_neg (not_not_intro ⟨h3', h4⟩), if_neg (by omega)]
                  have hn : badN (numV (part ls 1)) (part ls 0) (part ls 2) = none := by
                    unfold badN
                    rw [if_neg (not_not_intro ⟨num_pos ho, hok.2.2⟩), if_neg (not_not_intro h0), if_neg (not_not_intro h4)]
                  refine k_FrameG (n := numV (part ls 1)) (by assumption) (fun _ a H' kn => ?_) (fun z hz => ?_) _ _ H kn
                  · exact k hb _ _ (kn.take .h)
                  · rw [hn] at hz
                    cases hz
              · have h4' : ¬ (part ls 2 = "fixed" ∨ part ls 2 = "free") := h4
                walk_at "w"
                refine s_raiseK cx DX (by walk_at "in") (by kernel_rfl) ?_
                walk_at "w"
                exact bad (by unfold badP; rw [if_neg (not_not_intro h0), if_neg (not_not_intro hok), if_pos (fun z => h4 z.2)]) (by decide +kernel) kn
        · rw [if_neg ho]
          walk_at "w"
          refine s_raiseK cx DX (by walk_at "in") (by kernel_rfl) ?_
          walk_at "w"
          exact wrong1 (fun z => ho z.2.1) kn
      · walk_at "w"
        refine s_raiseK cx DX (by walk_at "in") (by kernel_rfl) ?_
        walk_at "w"
        exact wrong1 (fun z => absurd z.1 (by omega)) kn
    · have h0' : ¬ (part ls 0 = "fixed" ∨ part ls 0 = "free") := h0
      walk_at "w"
      refine s_raiseK cx DX (by walk_at "in") (by kernel_rfl) ?_
      walk_at "w"
      exact bad (by unfold badP; rw [if_pos h0]) (by decide +kernel) kn
end

end
end U

namespace U
section
open PySem PySem.Spec L2
open PySem.W (findIn isFn mroIn Looks InstAt)
open PyProof.Rows hiding St
set_option hygiene false
local macro_rules | `(tactic| walk_at "w") => `(tactic| repeat (first
  | (with_reducible refine ck_e ?_; first
    | (with_reducible refine ck_nm ?_; with_reducible refine w_SIGNS cx T (by (repeat (first | with_reducible exact In.h | apply In.t)); (first | done | fail)) ?_)
    | (with_reducible refine ck_nm ?_; with_reducible refine w_Frame cx T (by (repeat (first | with_reducible exact In.h | apply In.t)); (first | done | fail)) ?_)
    | (with_reducible refine ck_call ?_; with_reducible refine w_call cx (by (repeat (first | with_reducible exact In.h | apply In.t)); (first | done | fail)) D0 (by kernel_rfl) ?_)
    | (with_reducible refine ck_call ?_; with_reducible refine w_call cx (by (repeat (first | with_reducible exact In.h | apply In.t)); (first | done | fail)) D1 (by kernel_rfl) ?_)
    | (with_reducible refine ck_call ?_; with_reducible refine w_call cx (by (repeat (first | with_reducible exact In.h | apply In.t)); (first | done | fail)) D2 (by kernel_rfl) ?_)
    | (with_reducible refine ck_call ?_; with_reducible refine w_call cx (by (repeat (first | with_reducible exact In.h | apply In.t)); (first | done | fail)) D3 (by kernel_rfl) ?_)
    | (with_reducible refine ck_call ?_; with_reducible refine w_call cx (by (repeat (first | with_reducible exact In.h | apply In.t)); (first | done | fail)) D4 (by kernel_rfl) ?_)
    | (with_reducible refine ck_call ?_; with_reducible refine w_call cx (by (repeat (first | with_reducible exact In.h | apply In.t)); (first | done | fail)) D5 (by kernel_rfl) ?_)
    | (with_reducible refine ck_call ?_; with_reducible refine w_call cx (by (repeat (first | with_reducible exact In.h | apply In.t)); (first | done | fail)) D6 (by kernel_rfl) ?_)
    | (with_reducible refine ck_call ?_; with_reducible refine w_call cx (by (repeat (first | with_reducible exact In.h | apply In.t)); (first | done | fail)) D7 (by kernel_rfl) ?_)
    | (with_reducible refine ck_call ?_; with_reducible refine w_call cx (by (repeat (first | with_reducible exact In.h | apply In.t)); (first | done | fail)) D8 (by kernel_rfl) ?_)
    | (with_reducible refine ck_call ?_; with_reducible refine w_call cx (by (repeat (first | with_reducible exact In.h | apply In.t)); (first | done | fail)) D9 (by kernel_rfl) ?_)
    | with_reducible refine sv_fld cx XF.x hno ?_
    | (with_reducible refine ck_call ?_; with_reducible refine sv_isinstance cx (by (repeat (first | with_reducible exact In.h | apply In.t)); (first | done | fail)) ?_)
    | (with_reducible refine ck_nm ?_; with_reducible refine sv_var cx (by (repeat (first | with_reducible exact SlotIs.h | apply SlotIs.t)); (first | done | fail)) ?_)
    | (with_reducible refine ck_nm ?_; with_reducible refine w_var cx (by (repeat (first | with_reducible exact SlotIs.h | apply SlotIs.t)); (first | done | fail)) ?_)
    | with_reducible refine w_int ?_
    | with_reducible refine w_bin ?_
    | (with_reducible refine ck_ix ?_; with_reducible refine w_ix ?_)
    | (with_reducible refine ck_cmp ?_; with_reducible refine w_cmp ?_)
    | with_reducible refine w_str ?_
    | with_reducible refine w_tupK ?_
    | with_reducible refine w_lstK ?_
    | (with_reducible refine ck_call ?_; with_reducible refine w_len cx (by (repeat (first | with_reducible exact In.h | apply In.t)); (first | done | fail)) ?_)
    | (with_reducible refine ck_call ?_; with_reducible refine w_max cx (by (repeat (first | with_reducible exact In.h | apply In.t)); (first | done | fail)) ?_)
    | (with_reducible refine ck_call ?_; with_reducible refine w_min cx (by (repeat (first | with_reducible exact In.h | apply In.t)); (first | done | fail)) ?_)
    | (with_reducible refine ck_call ?_; with_reducible refine w_abs cx (by (repeat (first | with_reducible exact In.h | apply In.t)); (first | done | fail)) ?_)
    | (with_reducible refine ck_call ?_; with_reducible refine w_repr cx (by (repeat (first | with_reducible exact In.h | apply In.t)); (first | done | fail)) ?_)
    | (with_reducible refine ck_call ?_; with_reducible refine w_isinstance cx (by (repeat (first | with_reducible exact In.h | apply In.t)); (first | done | fail)) ?_)
    | (with_reducible refine ck_call ?_; with_reducible refine w_sorted cx (by (repeat (first | with_reducible exact In.h | apply In.t)); (first | done | fail)) ?_)
    | (with_reducible refine ck_call ?_; with_reducible refine w_all cx (by (repeat (first | with_reducible exact In.h | apply In.t)); (first | done | fail)) ?_)
    | (with_reducible refine ck_call ?_; with_reducible refine w_any cx (by (repeat (first | with_reducible exact In.h | apply In.t)); (first | done | fail)) ?_)
    | (with_reducible refine ck_call ?_; with_reducible refine w_sum cx (by (repeat (first | with_reducible exact In.h | apply In.t)); (first | done | fail)) ?_)
    | (with_reducible refine ck_call ?_; with_reducible refine w_intT cx (by (repeat (first | with_reducible exact In.h | apply In.t)); (first | done | fail)) ?_)
    | (with_reducible refine ck_call ?_; with_reducible refine w_strT cx (by (repeat (first | with_reducible exact In.h | apply In.t)); (first | done | fail)) ?_)
    | (with_reducible refine ck_call ?_; with_reducible refine w_tupleT cx (by (repeat (first | with_reducible exact In.h | apply In.t)); (first | done | fail)) ?_)
    | (with_reducible refine ck_call ?_; with_reducible refine w_listT cx (by (repeat (first | with_reducible exact In.h | apply In.t)); (first | done | fail)) ?_)
    | (with_reducible refine ck_call ?_; with_reducible refine w_dictT cx (by (repeat (first | with_reducible exact In.h | apply In.t)); (first | done | fail)) ?_)
    | (with_reducible refine ck_call ?_; with_reducible refine w_boolT cx (by (repeat (first | with_reducible exact In.h | apply In.t)); (first | done | fail)) ?_)
    | (with_reducible refine ck_atr ?_; with_reducible refine w_attr ?_)
    | with_reducible refine w_un ?_
    | (with_reducible refine ck_cmp ?_; with_reducible refine w_chain ?_)
    | with_reducible refine w_and ?_
    | with_reducible refine w_or ?_
    | with_reducible refine w_bool1 ?_
    | with_reducible refine w_not ?_
    | with_reducible refine w_if ?_
    | with_reducible refine w_bl ?_
    | with_reducible refine w_non ?_
    | with_reducible refine w_joined ?_
    | with_reducible refine w_joined1 ?_
    | with_reducible refine w_fmt ?_)
  | (with_reducible refine ck_a ?_; first
    | with_reducible refine wa_cons ?_
    | with_reducible refine wa_nil ?_)
  | (with_reducible refine ck_s ?_; first
    | with_reducible refine s_fld cx T.cl T.n1 ?_
    | with_reducible refine s_fld cx T.cl T.n2 ?_
    | with_reducible refine s_fld cx T.cl T.n3 ?_
    | with_reducible refine s_fld cx T.cl T.n4 ?_
    | with_reducible refine s_fld cx T.cl T.n5 ?_
    | with_reducible refine sv_set cx ?_
    | (with_reducible refine ck_asgn ?_; with_reducible refine s_set cx ?_)
    | with_reducible refine s_if ?_
    | with_reducible refine s_ret ?_
    | with_reducible refine s_nil ?_
    | (with_reducible refine ck_xpr ?_; with_reducible refine s_expr ?_)
    | (with_reducible refine ck_asgn ?_; with_reducible refine s_asg ?_)
    | with_reducible refine s_pass ?_
    | with_reducible refine s_break ?_
    | with_reducible refine s_cont ?_
    | with_reducible refine s_retN ?_)
  | (with_reducible refine ck_o ?_; first
    | with_reducible refine o_ninSg cx T ?_
    | with_reducible refine o_addSn (by repeat (first | with_reducible exact l_emp | with_reducible exact l_en | with_reducible exact l_sp | with_reducible exact l_dir | with_reducible assumption | with_reducible exact l_frt (by first | with_reducible assumption | exact log_ok (by omega)) | with_reducible exact l_int (by first | with_reducible assumption | exact log_ok (by omega)) | with_reducible apply l_app | with_reducible exact Nat.le_refl _)) (by repeat (first | with_reducible exact l_emp | with_reducible exact l_en | with_reducible exact l_sp | with_reducible exact l_dir | with_reducible assumption | with_reducible exact l_frt (by first | with_reducible assumption | exact log_ok (by omega)) | with_reducible exact l_int (by first | with_reducible assumption | exact log_ok (by omega)) | with_reducible apply l_app | with_reducible exact Nat.le_refl _)) (by kernel_rfl) ?_
    | with_reducible refine o_add ?_
    | with_reducible refine o_sub ?_
    | with_reducible refine o_lt ?_
    | with_reducible refine o_le ?_
    | with_reducible refine o_gt ?_
    | with_reducible refine o_ge ?_
    | with_reducible refine o_eqI ?_
    | with_reducible refine o_neI ?_
    | with_reducible refine o_eqS ?_
    | with_reducible refine o_neS ?_
    | with_reducible refine o_neB ?_
    | with_reducible refine o_eqB ?_
    | with_reducible refine o_isN ?_
    | with_reducible refine o_notN ?_
    | with_reducible refine o_mod (by omega) ?_
    | with_reducible refine o_mulL (by omega) ?_
    | with_reducible refine o_mulR (by omega) ?_
    | with_reducible refine o_fdiv (by omega) ?_
    | with_reducible refine o_pow (by simp only [Int.reduceToNat, Int.reducePow]; first | done | rfl) (by omega) (by decide +kernel) ?_
    | with_reducible refine o_neL0 cx (by with_reducible assumption) (by (repeat (first | with_reducible assumption | with_reducible exact Has.h | apply Has.t)); (first | done | fail)) (by (repeat (first | with_reducible assumption | with_reducible exact Has.h | apply Has.t)); (first | done | fail)) ?_
    | with_reducible refine o_fdivB (by omega) ?_)
  | (with_reducible refine ck_c ?_; first
    | with_reducible refine c_strI (by first | with_reducible assumption | exact log_ok (by omega)) ?_
    | with_reducible refine c_reprI (by first | with_reducible assumption | exact log_ok (by omega)) ?_
    | with_reducible refine c_lenS (Nat.le_trans (by repeat (first | with_reducible exact l_emp | with_reducible exact l_en | with_reducible exact l_sp | with_reducible exact l_dir | with_reducible assumption | with_reducible exact l_frt (by first | with_reducible assumption | exact log_ok (by omega)) | with_reducible exact l_int (by first | with_reducible assumption | exact log_ok (by omega)) | with_reducible apply l_app | with_reducible exact Nat.le_refl _)) (Nat.le_of_ble_eq_true (by kernel_rfl))) ?_
    | with_reducible refine c_max cx ?_
    | with_reducible refine c_min cx ?_
    | with_reducible refine c_abs ?_
    | with_reducible refine c_intI ?_
    | with_reducible refine c_intB ?_
    | with_reducible refine c_strS ?_
    | with_reducible refine c_lenT (by with_reducible assumption) (by (repeat (first | with_reducible assumption | with_reducible exact Ent.h | apply Ent.t)); (first | done | fail)) ?_
    | with_reducible refine c_lenL (by with_reducible assumption) (by (repeat (first | with_reducible assumption | with_reducible exact Has.h | apply Has.t)); (first | done | fail)) ?_
    | with_reducible refine c_lenX (by with_reducible assumption) (by (repeat (first | with_reducible assumption | with_reducible exact Ent.h | apply Ent.t)); (first | done | fail)) ?_
    | with_reducible refine c_lenQ cx (by with_reducible assumption) (by (repeat (first | with_reducible assumption | with_reducible exact Ent.h | apply Ent.t)); (first | done | fail)) ?_)
  | (with_reducible refine ck_x ?_; first
    | with_reducible refine x_Sg cx T ?_
    | with_reducible refine x_tup (by with_reducible assumption) (by (repeat (first | with_reducible assumption | with_reducible exact Ent.h | apply Ent.t)); (first | done | fail)) (by first | with_reducible exact at0 | with_reducible exact at1 | with_reducible exact at2) ?_
    | with_reducible refine x_lst (by with_reducible assumption) (by (repeat (first | with_reducible assumption | with_reducible exact Has.h | apply Has.t)); (first | done | fail)) (by first | with_reducible exact at0 | with_reducible exact at1 | with_reducible exact at2) ?_
    | with_reducible refine x_lstX (by with_reducible assumption) (by (repeat (first | with_reducible assumption | with_reducible exact Ent.h | apply Ent.t)); (first | done | fail)) (by first | with_reducible exact at0 | with_reducible exact at1 | with_reducible exact at2) ?_)
  | (with_reducible refine ck_at ?_; first
    | with_reducible refine at_most cx T ?_
    | with_reducible refine at_pieces cx T (by with_reducible assumption) (by (repeat (first | with_reducible assumption | with_reducible exact Ent.h | apply Ent.t)); (first | done | fail)) ?_
    | with_reducible refine at_front cx T (by with_reducible assumption) (by (repeat (first | with_reducible assumption | with_reducible exact Ent.h | apply Ent.t)); (first | done | fail)) ?_
    | with_reducible refine at_back cx T (by with_reducible assumption) (by (repeat (first | with_reducible assumption | with_reducible exact Ent.h | apply Ent.t)); (first | done | fail)) ?_
    | with_reducible refine at_fs cx T (by with_reducible assumption) (by (repeat (first | with_reducible assumption | with_reducible exact Ent.h | apply Ent.t)); (first | done | fail)) ?_
    | with_reducible refine at_bs cx T (by with_reducible assumption) (by (repeat (first | with_reducible assumption | with_reducible exact Ent.h | apply Ent.t)); (first | done | fail)) ?_)
  | (with_reducible refine ck_t ?_; first
    | (with_reducible refine ck_tc ?_; with_reducible refine t_cmp ?_)
    | (with_reducible refine ck_tc ?_; with_reducible refine t_chain ?_)
    | with_reducible refine t_not ?_
    | with_reducible refine t_and ?_
    | with_reducible refine t_or ?_
    | with_reducible refine t_val ?_)
  | (with_reducible refine ck_w ?_; first
    | with_reducible refine ww_and ?_
    | with_reducible refine ww_or ?_
    | with_reducible refine ww_and1 ?_
    | with_reducible refine ww_or1 ?_)
  | (with_reducible refine ck_p ?_; first
    | with_reducible refine p_l0 (by with_reducible assumption) (by (repeat (first | with_reducible assumption | with_reducible exact Put.h | apply Put.t)); (first | done | fail)) ?_
    | with_reducible refine p_l1 (by with_reducible assumption) (by (repeat (first | with_reducible assumption | with_reducible exact Put.h | apply Put.t)); (first | done | fail)) ?_
    | with_reducible refine p_l2 (by with_reducible assumption) (by (repeat (first | with_reducible assumption | with_reducible exact Put.h | apply Put.t)); (first | done | fail)) ?_)
  | (with_reducible refine ck_f ?_; first
    | with_reducible refine f_str (Nat.le_trans (by repeat (first | with_reducible exact l_emp | with_reducible exact l_en | with_reducible exact l_sp | with_reducible exact l_dir | with_reducible assumption | with_reducible exact l_frt (by first | with_reducible assumption | exact log_ok (by omega)) | with_reducible exact l_int (by first | with_reducible assumption | exact log_ok (by omega)) | with_reducible apply l_app | with_reducible exact Nat.le_refl _)) (Nat.le_of_ble_eq_true (by kernel_rfl))) ?_
    | with_reducible refine f_int (by first | with_reducible assumption | exact log_ok (by omega)) ?_)
  | (with_reducible refine ck_j ?_; first
    | with_reducible refine wj_nil ?_
    | with_reducible refine wj_cons ?_)
  | (with_reducible refine ck_g ?_; first
    | (with_reducible refine ck_gn ?_; with_reducible refine g_name cx (by (repeat (first | with_reducible exact SetAt.h | apply SetAt.t)); (first | done | fail)) ?_)
    | (with_reducible refine ck_gx ?_; with_reducible refine g_sub ?_))
  | (with_reducible refine ck_i ?_; first
    | with_reducible refine i_not ?_
    | with_reducible refine i_t (by with_reducible rfl) ?_
    | with_reducible refine i_t ⟨rfl, rfl, rfl⟩ ?_
    | with_reducible refine i_t (by with_reducible assumption) ?_
    | with_reducible refine i_f (by with_reducible assumption) ?_
    | with_reducible refine i_t (by omega) ?_
    | with_reducible refine i_f (by omega) ?_
    | with_reducible refine i_t (by simp only [List.length_cons, List.length_nil]; omega) ?_
    | with_reducible refine i_f (by simp only [List.length_cons, List.length_nil]; omega) ?_)
  | (with_reducible refine ck_i ?_; first
    | with_reducible refine iteT ?_)
  | (with_reducible refine ck_i ?_; first
    | with_reducible refine iteF ?_)
  | (with_reducible refine ck_st ?_; first
    | with_reducible refine k_set (by (repeat (first | with_reducible exact SetAt.h | apply SetAt.t)); (first | done | fail)) ?_)
  | with_reducible refine k_Frame (by with_reducible assumption) (by omega) (by omega) (fun p H kn => ?_)
  | with_reducible refine k_sj (by repeat (first | with_reducible exact l_emp | with_reducible exact l_en | with_reducible exact l_sp | with_reducible exact l_dir | with_reducible assumption | with_reducible exact l_frt (by first | with_reducible assumption | exact log_ok (by omega)) | with_reducible exact l_int (by first | with_reducible assumption | exact log_ok (by omega)) | with_reducible apply l_app | with_reducible exact Nat.le_refl _)) (by kernel_rfl) ?_
  | with_reducible refine k_bl ?_
  | with_reducible refine o_neg ?_
  | with_reducible refine k_sfld (by with_reducible assumption) (by (repeat (first | with_reducible assumption | with_reducible exact Put.h | apply Put.t)); (first | done | fail)) (by repeat (first | with_reducible exact FL.z | apply FL.s)) (by with_unfolding_all rfl) ?_
  | with_reducible refine gs_nil ?_
  | with_reducible refine gs_cons ?_
  | (with_reducible refine ⟨_, _, _, (by with_reducible assumption), (by with_unfolding_all exact Nat.le_of_ble_eq_true rfl), ?_⟩; intro p H kn)
  | (with_reducible intro H kn)))
/-! errors caught -/
/-- the classes that the suite names -/
structure ErT (K : PySem.W.Frag) (mg : Str → Option Value) (D : Addr) (xs : List (Str × Addr)) : Prop where
  g : ∀ x ∈ xs, mg x.1 = some (.ref x.2)
  c : ∀ x ∈ xs, PySem.W.kitOne K (.ref D) (.ref x.2) = some false
/-- raised, then caught -/
theorem ra_try {K : PySem.W.Frag} {B D : Addr} {i : Nat} {ts : Addr → Value → Option Addr → TS} {Wout : WX} {De : Ends} {f : Str} {v : V} {R : Hp → Prop} {N : List (Addr × (HO → Prop))} {L : List (Addr × Obj)} {σ : St} (hx : PySem.W.exmOne K (.ref D) (.ref B) = some true)
    (h : ∀ a dd H', H' a = none → Kn (Cj (Ex dd (.xd [(f, v)])) R) N L H' → ts a (.ref D) (some dd) { nx := fun σ' H' => De.nx (σ'.set i none) H', rt := De.rt, bk := fun σ' H' => De.bk (σ'.set i none) H', ct := fun σ' H' => De.ct (σ'.set i none) H' } (σ.set i (some (.ref a))) H') :
    Ra (fun c d H' => wAs K (.ref B) i ts Wout De c d σ H') D f v R N L := fun dd H' kn => ⟨true, hx, fun _ a ha => h a dd H' ha kn, fun z => Bool.noConfusion z⟩
def suite (st : Stmt) : List Stmt := match st with
  | .Try _ [.ExceptHandler _ _ su _] _ _ _ => su
  | _ => []
/-! k03: the word of an error, told and parsed -/
/-- what the law names of the errors -/
structure WdT (K : PySem.W.Frag) (mg : Str → Option Value) (Bf Bt e1 e2 Br : Addr) : Prop where
  ef : ErT K mg Bf [("BadPlace", e1), ("BadPulse", e2), ("BadText", Bt)]
  et : ErT K mg Bt [("BadFrame", Bf), ("BadPlace", e1), ("BadPulse", e2)]
  xf : ExF K Bf
  xt : ExF K Bt
  nf : findIn K (.ref Bf) "name" = some none
  nt : findIn K (.ref Bt) "index" = some none
  hr : mg "RopeError" = some (.ref Br)
  hxf : PySem.W.exmOne K (.ref Bf) (.ref Br) = some true
  hxt : PySem.W.exmOne K (.ref Bt) (.ref Br) = some true
def wdF (f : Bool) : Str := if f = true then "name" else "index"
def wdN (f : Bool) : Str := if f = true then "frame" else "text"
def spWord (Bf Bt : Addr) : SpH := fun _ cls d H Q => ∃ (f : Bool) (dd : Addr) (v : V) (R : Hp → Prop) (N : List (Addr × (HO → Prop))) (L : List (Addr × Obj)), d = some dd ∧ cls = .ref (if f = true then Bf else Bt) ∧ Kn (Cj (Ex dd (.xd [(wdF f, v)])) R) N L H ∧
  ∀ p H', Kn R ((p, Is (.lst [.str (wdN f), v])) :: N) L H' → Q (.ref p) H'
section
variable {P : Program} {w : World} {K : PySem.W.Frag} {mg : Str → Option Value} {base : Heap} {C d Bf Bt e1 e2 Br : Addr}
theorem ok_word {fa : Addr} {fd : FuncData} (F : Fun K "_law_word" "_law_word" s_word fa fd) (bl : ∀ x ∈ blts, mg x = none) (W : WdT K mg Bf Bt e1 e2 Br) : FkH P w K mg base 1 fa fd "_law_e" (spWord Bf Bt) := by
  refine fn_okH F sc_word nq_word ck_word bl (fun X a cls d H Q cx h => ?_)
  obtain ⟨f, dd, v, R, N, L, rfl, rfl, kn, k⟩ := h
  change Wss X _ _ [_, _] _
  cases f with
  | true =>
    rw [if_pos rfl] at cx
    change Kn (Cj (Ex dd (.xd [("name", v)])) R) N L H at kn
    change ∀ p H', Kn R ((p, Is (.lst [.str "frame", v])) :: N) L H' → Q (.ref p) H' at k
    have XF := W.xf
    have hno := W.nf
    refine sv_set cx ?_
    walk_at "w"
    refine sv_glob (v := .ref Bf) cx (by walk_at "in") (W.et.g ("BadFrame", Bf) (by simp)) rfl ?_
    walk_at "w"
    refine ce_is cx XF.c (.inr ⟨dd, _, rfl, kn.get .h⟩) kit_self ?_
    walk_at "w"
    refine sv_glob (v := .ref e1) cx (by walk_at "in") (W.ef.g ("BadPlace", e1) (by simp)) rfl ?_
    walk_at "w"
    refine sv_glob (v := .ref e2) cx (by walk_at "in") (W.ef.g ("BadPulse", e2) (by simp)) rfl ?_
    walk_at "w"
    refine sv_glob (v := .ref Bt) cx (by walk_at "in") (W.ef.g ("BadText", Bt) (by simp)) rfl ?_
    walk_at "w"
    refine ce_isT (cs := [e1, e2, Bt]) cx XF.c (.inr ⟨dd, _, rfl, kn.get (.t .h)⟩) (kn.get .h) (kitAny_f fun c hc => ?_) ?_
    · simp at hc
      rcases hc with rfl | rfl | rfl
      · exact W.ef.c ("BadPlace", _) (by simp)
      · exact W.ef.c ("BadPulse", _) (by simp)
      · exact W.ef.c ("BadText", _) (by simp)
    walk_at "w"
    refine ⟨rfl, dd, _, _, rfl, kn.get (.t .h), (by rfl), ?_⟩
    walk_at "w"
    refine sv_glob (v := .ref Bt) cx (by walk_at "in") (W.ef.g ("BadText", Bt) (by simp)) rfl ?_
    walk_at "w"
    refine ce_is cx XF.c (.inr ⟨dd, _, rfl, kn.get (.t .h)⟩) (W.ef.c ("BadText", Bt) (by simp)) ?_
    walk_at "w"
    exact k _ _ (((kn.weak (.t (.t .r))).take (.t .h)))
  | false =>
    rw [if_neg Bool.false_ne_true] at cx
    change Kn (Cj (Ex dd (.xd [("index", v)])) R) N L H at kn
    change ∀ p H', Kn R ((p, Is (.lst [.str "text", v])) :: N) L H' → Q (.ref p) H' at k
    have XF := W.xt
    have hno := W.nt
    refine sv_set cx ?_
    walk_at "w"
    refine sv_glob (v := .ref Bf) cx (by walk_at "in") (W.et.g ("BadFrame", Bf) (by simp)) rfl ?_
    walk_at "w"
    refine ce_is cx XF.c (.inr ⟨dd, _, rfl, kn.get .h⟩) (W.et.c ("BadFrame", Bf) (by simp)) ?_
    walk_at "w"
    refine sv_glob (v := .ref Bt) cx (by walk_at "in") (W.ef.g ("BadText", Bt) (by simp)) rfl ?_
    walk_at "w"
    refine ce_is cx XF.c (.inr ⟨dd, _, rfl, kn.get .h⟩) kit_self ?_
    walk_at "w"
    refine sv_glob (v := .ref Bf) cx (by walk_at "in") (W.et.g ("BadFrame", Bf) (by simp)) rfl ?_
    walk_at "w"
    refine sv_glob (v := .ref e1) cx (by walk_at "in") (W.et.g ("BadPlace", e1) (by simp)) rfl ?_
    walk_at "w"
    refine sv_glob (v := .ref e2) cx (by walk_at "in") (W.et.g ("BadPulse", e2) (by simp)) rfl ?_
    walk_at "w"
    refine ce_isT (cs := [Bf, e1, e2]) cx XF.c (.inr ⟨dd, _, rfl, kn.get (.t .h)⟩) (kn.get .h) (kitAny_f fun c hc => ?_) ?_
    · simp at hc
      rcases hc with rfl | rfl | rfl
      · exact W.et.c ("BadFrame", _) (by simp)
      · exact W.et.c ("BadPlace", _) (by simp)
      · exact W.et.c ("BadPulse", _) (by simp)
    walk_at "w"
    refine ⟨rfl, dd, _, _, rfl, kn.get (.t .h), (by rfl), ?_⟩
    walk_at "w"
    exact k _ _ (((kn.weak (.t (.t .r))).take (.t .h)))
def spTold : Sp := fun vs H Q _ => ∃ (n : Int) (u v : Str) (R : Hp → Prop) (N : List (Addr × (HO → Prop))) (L : List (Addr × Obj)), vs = [.int n, .str u, .str v] ∧ Kn R N L H ∧
  (badN n u v = none → ∀ H', Kn R N L H' → Q .non H') ∧ ∀ z, badN n u v = some z → ∀ p H', Kn R ((p, Is (.lst [.str "frame", .str z])) :: N) L H' → Q (.ref p) H'
theorem ok_told {fa : Addr} {fd : FuncData} (F : Fun K "_law_told" "_law_told" s_told fa fd) (bl : ∀ x ∈ blts, mg x = none) (W : WdT K mg Bf Bt e1 e2 Br) (DW : DfH P w K mg base "_law_word" 1 "_law_e" (spWord Bf Bt)) (DF : Cl P w K mg base C "Frame" 3 ["self", "pieces", "front", "back"] (spFrG C Bf)) :
    Fk P w K mg base 5 fa fd ["_law_pieces", "_law_front", "_law_back"] spTold := by
  refine fn_okT F sc_told nq_told ck_told bl (fun vs H Q E h => ?_) (fun X H vs Q E cx cn ct h => ?_)
  · obtain ⟨n, u, v, R, N, L, rfl, _⟩ := h
    rfl
  · obtain ⟨n, u, v, R, N, L, rfl, kn, k, kb⟩ := h
    change Wss X _ _ [_, _, _, _, _] _
    refine s_set cx ?_
    walk_at "w"
    have cx0 := cx
    refine s_tryH cx cn ct 4 rfl rfl (by walk_at "in") W.hr (fun X cx => ?_)
    walk_at "w"
    refine w_make cx (by walk_at "in") DF (by kernel_rfl) ?_
    walk_at "w"
    refine k_FrameG (R := R) (N := N) (L := L) (by assumption) (fun hz a H' kn => ?_) (fun z hz R' er => ?_) _ _ H kn
    · walk_at "w"
      exact w_var cx0 (by walk_at "slot") (k hz _ (kn.weak (.t .r)))
    · refine ra_try W.hxf fun a dd H' ha kn X' cx' rm => ?_
      change Wss X' [_] _ [_, _, _, _, _] _
      refine sv_set cx' ?_
      refine sv_callH cx' (rm.mono (by decide)) (by walk_at "in") DW ?_
      refine wa_cons (sv_var cx' (by walk_at "slot") (wa_nil ⟨rfl, true, dd, _, _, _, _, rfl, rfl, kn, fun p H kn => ?_⟩))
      walk_at "w"
      exact w_var cx0 (σ := [_, _, _, _, none]) (by walk_at "slot") (kb z hz _ _ (kn.weak er))
def spParsed : Sp := fun vs H Q _ => ∃ (z : Str) (R : Hp → Prop) (N : List (Addr × (HO → Prop))) (L : List (Addr × Obj)), vs = [.str z] ∧ z.length ≤ 90000 ∧ Kn R N L H ∧
  (badP (Txt.split z " ") = none → ∀ p H', Kn (Cj (Ex p (.tup [.str (part (Txt.split z " ") 0), .int (numV (part (Txt.split z " ") 1)), .str (part (Txt.split z " ") 2)])) R) N L H' → Q (.ref p) H') ∧ ∀ i, badP (Txt.split z " ") = some i → ∀ p H', Kn R ((p, Is (.lst [.str "text", .int i])) :: N) L H' → Q (.ref p) H'
theorem badP_ends {ls : List Str} (h : badP ls = none) : isEnd (part ls 0) ∧ isEnd (part ls 2) := by
  unfold badP at h
  by_cases h0 : isEnd (part ls 0)
  · by_cases h1 : okN ls
    · by_cases h2 : 3 ≤ ls.length ∧ isEnd (part ls 2)
      · exact ⟨h0, h2.2⟩
      · rw [if_neg (not_not_intro h0), if_neg (not_not_intro h1), if_pos h2] at h
        cases h
    · rw [if_neg (not_not_intro h0), if_pos h1] at h
      cases h
  · rw [if_pos h0] at h
    cases h
theorem ok_parsed {fa : Addr} {fd : FuncData} (F : Fun K "_law_parsed" "_law_parsed" s_parsed fa fd) (bl : ∀ x ∈ blts, mg x = none) (T : FrT K w mg C d) (W : WdT K mg Bf Bt e1 e2 Br) (DW : DfH P w K mg base "_law_word" 1 "_law_e" (spWord Bf Bt)) (CP : Cm P w K mg base C "parse" 5 ["cls", "text"] (spParseG C Bt)) :
    Fk P w K mg base 7 fa fd ["_law_text"] spParsed := by
  refine fn_okT F sc_parsed nq_parsed ck_parsed bl (fun vs H Q E h => ?_) (fun X H vs Q E cx cn ct h => ?_)
  · obtain ⟨z, R, N, L, rfl, _⟩ := h
    rfl
  · obtain ⟨z, R, N, L, rfl, hz, kn, k, kb⟩ := h
    change Wss X _ _ [_, _, _, _] _
    have cx0 := cx
    refine s_tryH cx cn ct 3 rfl rfl (by walk_at "in") W.hr (fun X cx => ?_)
    walk_at "w"
    refine w_cmeth cx CP (by kernel_rfl) ?_
    walk_at "w"
    refine ⟨rfl, ?_⟩
    walk_at "w"
    refine ⟨z, R, N, L, rfl, hz, kn, fun hb a H kn => ?_, fun i hb => ?_⟩
    · have he := badP_ends hb
      have e0 := en_free he.1
      have e2 := en_free he.2
      walk_at "w"
      rw [← e0, ← e2] at kn
      exact w_var cx0 (by walk_at "slot") (k hb _ _ (kn.weak (.cj .h (.t (.t .r)))))
    · refine ra_try W.hxt fun a dd H' ha kn X' cx' rm => ?_
      change Wss X' [_] _ [_, _, _, _] _
      refine sv_set cx' ?_
      refine sv_callH cx' (rm.mono (by decide)) (by walk_at "in") DW ?_
      refine wa_cons (sv_var cx' (by walk_at "slot") (wa_nil ⟨rfl, false, dd, _, _, _, _, rfl, rfl, kn, fun p H kn => ?_⟩))
      walk_at "w"
      exact w_var cx0 (σ := [_, _, _, none]) (by walk_at "slot") (kb i hb _ _ kn)
end

end
end U

namespace U
section
open PySem PySem.Spec L2
open PySem.W (findIn isFn mroIn Looks InstAt)
open PyProof.Rows hiding St
set_option hygiene false
local macro_rules | `(tactic| walk_at "w") => `(tactic| repeat (first
  | (with_reducible refine ck_e ?_; first
    | (with_reducible refine ck_nm ?_; with_reducible refine w_SIGNS cx T (by (repeat (first | with_reducible exact In.h | apply In.t)); (first | done | fail)) ?_)
    | (with_reducible refine ck_nm ?_; with_reducible refine w_Frame cx T (by (repeat (first | with_reducible exact In.h | apply In.t)); (first | done | fail)) ?_)
    | (with_reducible refine ck_call ?_; with_reducible refine w_call cx (by (repeat (first | with_reducible exact In.h | apply In.t)); (first | done | fail)) D0 (by kernel_rfl) ?_)
    | (with_reducible refine ck_call ?_; with_reducible refine w_call cx (by (repeat (first | with_reducible exact In.h | apply In.t)); (first | done | fail)) D1 (by kernel_rfl) ?_)
    | (with_reducible refine ck_call ?_; with_reducible refine w_call cx (by (repeat (first | with_reducible exact In.h | apply In.t)); (first | done | fail)) D2 (by kernel_rfl) ?_)
    | (with_reducible refine ck_call ?_; with_reducible refine w_call cx (by (repeat (first | with_reducible exact In.h | apply In.t)); (first | done | fail)) D3 (by kernel_rfl) ?_)
    | (with_reducible refine ck_call ?_; with_reducible refine w_call cx (by (repeat (first | with_reducible exact In.h | apply In.t)); (first | done | fail)) D4 (by kernel_rfl) ?_)
    | (with_reducible refine ck_call ?_; with_reducible refine w_call cx (by (repeat (first | with_reducible exact In.h | apply In.t)); (first | done | fail)) D5 (by kernel_rfl) ?_)
    | (with_reducible refine ck_call ?_; with_reducible refine w_call cx (by (repeat (first | with_reducible exact In.h | apply In.t)); (first | done | fail)) D6 (by kernel_rfl) ?_)
    | (with_reducible refine ck_call ?_; with_reducible refine w_call cx (by (repeat (first | with_reducible exact In.h | apply In.t)); (first | done | fail)) D7 (by kernel_rfl) ?_)
    | (with_reducible refine ck_call ?_; with_reducible refine w_call cx (by (repeat (first | with_reducible exact In.h | apply In.t)); (first | done | fail)) D8 (by kernel_rfl) ?_)
    | (with_reducible refine ck_call ?_; with_reducible refine w_call cx (by (repeat (first | with_reducible exact In.h | apply In.t)); (first | done | fail)) D9 (by kernel_rfl) ?_)
    | (with_reducible refine ck_nm ?_; with_reducible refine w_var cx (by (repeat (first | with_reducible exact SlotIs.h | apply SlotIs.t)); (first | done | fail)) ?_)
    | with_reducible refine w_int ?_
    | with_reducible refine w_bin ?_
    | (with_reducible refine ck_ix ?_; with_reducible refine w_ix ?_)
    | (with_reducible refine ck_cmp ?_; with_reducible refine w_cmp ?_)
    | with_reducible refine w_str ?_
    | with_reducible refine w_tupK ?_
    | with_reducible refine w_lstK ?_
    | (with_reducible refine ck_call ?_; with_reducible refine w_len cx (by (repeat (first | with_reducible exact In.h | apply In.t)); (first | done | fail)) ?_)
    | (with_reducible refine ck_call ?_; with_reducible refine w_max cx (by (repeat (first | with_reducible exact In.h | apply In.t)); (first | done | fail)) ?_)
    | (with_reducible refine ck_call ?_; with_reducible refine w_min cx (by (repeat (first | with_reducible exact In.h | apply In.t)); (first | done | fail)) ?_)
    | (with_reducible refine ck_call ?_; with_reducible refine w_abs cx (by (repeat (first | with_reducible exact In.h | apply In.t)); (first | done | fail)) ?_)
    | (with_reducible refine ck_call ?_; with_reducible refine w_repr cx (by (repeat (first | with_reducible exact In.h | apply In.t)); (first | done | fail)) ?_)
    | (with_reducible refine ck_call ?_; with_reducible refine w_isinstance cx (by (repeat (first | with_reducible exact In.h | apply In.t)); (first | done | fail)) ?_)
    | (with_reducible refine ck_call ?_; with_reducible refine w_sorted cx (by (repeat (first | with_reducible exact In.h | apply In.t)); (first | done | fail)) ?_)
    | (with_reducible refine ck_call ?_; with_reducible refine w_all cx (by (repeat (first | with_reducible exact In.h | apply In.t)); (first | done | fail)) ?_)
    | (with_reducible refine ck_call ?_; with_reducible refine w_any cx (by (repeat (first | with_reducible exact In.h | apply In.t)); (first | done | fail)) ?_)
    | (with_reducible refine ck_call ?_; with_reducible refine w_sum cx (by (repeat (first | with_reducible exact In.h | apply In.t)); (first | done | fail)) ?_)
    | (with_reducible refine ck_call ?_; with_reducible refine w_intT cx (by (repeat (first | with_reducible exact In.h | apply In.t)); (first | done | fail)) ?_)
    | (with_reducible refine ck_call ?_; with_reducible refine w_strT cx (by (repeat (first | with_reducible exact In.h | apply In.t)); (first | done | fail)) ?_)
    | (with_reducible refine ck_call ?_; with_reducible refine w_tupleT cx (by (repeat (first | with_reducible exact In.h | apply In.t)); (first | done | fail)) ?_)
    | (with_reducible refine ck_call ?_; with_reducible refine w_listT cx (by (repeat (first | with_reducible exact In.h | apply In.t)); (first | done | fail)) ?_)
    | (with_reducible refine ck_call ?_; with_reducible refine w_dictT cx (by (repeat (first | with_reducible exact In.h | apply In.t)); (first | done | fail)) ?_)
    | (with_reducible refine ck_call ?_; with_reducible refine w_boolT cx (by (repeat (first | with_reducible exact In.h | apply In.t)); (first | done | fail)) ?_)
    | (with_reducible refine ck_atr ?_; with_reducible refine w_attr ?_)
    | with_reducible refine w_un ?_
    | (with_reducible refine ck_cmp ?_; with_reducible refine w_chain ?_)
    | with_reducible refine w_and ?_
    | with_reducible refine w_or ?_
    | with_reducible refine w_bool1 ?_
    | with_reducible refine w_not ?_
    | with_reducible refine w_if ?_
    | with_reducible refine w_bl ?_
    | with_reducible refine w_non ?_
    | with_reducible refine w_joined ?_
    | with_reducible refine w_joined1 ?_
    | with_reducible refine w_fmt ?_)
  | (with_reducible refine ck_a ?_; first
    | with_reducible refine wa_cons ?_
    | with_reducible refine wa_nil ?_)
  | (with_reducible refine ck_s ?_; first
    | with_reducible refine s_fld cx T.cl T.n1 ?_
    | with_reducible refine s_fld cx T.cl T.n2 ?_
    | with_reducible refine s_fld cx T.cl T.n3 ?_
    | with_reducible refine s_fld cx T.cl T.n4 ?_
    | with_reducible refine s_fld cx T.cl T.n5 ?_
    | (with_reducible refine ck_asgn ?_; with_reducible refine s_set cx ?_)
    | with_reducible refine s_if ?_
    | with_reducible refine s_ret ?_
    | with_reducible refine s_nil ?_
    | (with_reducible refine ck_xpr ?_; with_reducible refine s_expr ?_)
    | (with_reducible refine ck_asgn ?_; with_reducible refine s_asg ?_)
    | with_reducible refine s_pass ?_
    | with_reducible refine s_break ?_
    | with_reducible refine s_cont ?_
    | with_reducible refine s_retN ?_)
  | (with_reducible refine ck_o ?_; first
    | with_reducible refine o_ninSg cx T ?_
    | with_reducible refine o_addSn (by repeat (first | with_reducible exact l_emp | with_reducible exact l_en | with_reducible exact l_sp | with_reducible exact l_dir | with_reducible assumption | with_reducible exact l_frt (by first | with_reducible assumption | exact log_ok (by omega)) | with_reducible exact l_int (by first | with_reducible assumption | exact log_ok (by omega)) | with_reducible apply l_app | with_reducible exact Nat.le_refl _)) (by repeat (first | with_reducible exact l_emp | with_reducible exact l_en | with_reducible exact l_sp | with_reducible exact l_dir | with_reducible assumption | with_reducible exact l_frt (by first | with_reducible assumption | exact log_ok (by omega)) | with_reducible exact l_int (by first | with_reducible assumption | exact log_ok (by omega)) | with_reducible apply l_app | with_reducible exact Nat.le_refl _)) (by kernel_rfl) ?_
    | with_reducible refine o_add ?_
    | with_reducible refine o_sub ?_
    | with_reducible refine o_lt ?_
    | with_reducible refine o_le ?_
    | with_reducible refine o_gt ?_
    | with_reducible refine o_ge ?_
    | with_reducible refine o_eqI ?_
    | with_reducible refine o_neI ?_
    | with_reducible refine o_eqS ?_
    | with_reducible refine o_neS ?_
    | with_reducible refine o_neB ?_
    | with_reducible refine o_eqB ?_
    | with_reducible refine o_isN ?_
    | with_reducible refine o_notN ?_
    | with_reducible refine o_mod (by omega) ?_
    | with_reducible refine o_mulL (by omega) ?_
    | with_reducible refine o_mulR (by omega) ?_
    | with_reducible refine o_fdiv (by omega) ?_
    | with_reducible refine o_pow (by simp only [Int.reduceToNat, Int.reducePow]; first | done | rfl) (by omega) (by decide +kernel) ?_
    | with_reducible refine o_neL0 cx (by with_reducible assumption) (by (repeat (first | with_reducible assumption | with_reducible exact Has.h | apply Has.t)); (first | done | fail)) (by (repeat (first | with_reducible assumption | with_reducible exact Has.h | apply Has.t)); (first | done | fail)) ?_
    | with_reducible refine o_fdivB (by omega) ?_)
  | (with_reducible refine ck_c ?_; first
    | with_reducible refine c_strI (by first | with_reducible assumption | exact log_ok (by omega)) ?_
    | with_reducible refine c_reprI (by first | with_reducible assumption | exact log_ok (by omega)) ?_
    | with_reducible refine c_lenS (Nat.le_trans (by repeat (first | with_reducible exact l_emp | with_reducible exact l_en | with_reducible exact l_sp | with_reducible exact l_dir | with_reducible assumption | with_reducible exact l_frt (by first | with_reducible assumption | exact log_ok (by omega)) | with_reducible exact l_int (by first | with_reducible assumption | exact log_ok (by omega)) | with_reducible apply l_app | with_reducible exact Nat.le_refl _)) (Nat.le_of_ble_eq_true (by kernel_rfl))) ?_
    | with_reducible refine c_max cx ?_
    | with_reducible refine c_min cx ?_
    | with_reducible refine c_abs ?_
    | with_reducible refine c_intI ?_
    | with_reducible refine c_intB ?_
    | with_reducible refine c_strS ?_
    | with_reducible refine c_lenT (by with_reducible assumption) (by (repeat (first | with_reducible assumption | with_reducible exact Ent.h | apply Ent.t)); (first | done | fail)) ?_
    | with_reducible refine c_lenL (by with_reducible assumption) (by (repeat (first | with_reducible assumption | with_reducible exact Has.h | apply Has.t)); (first | done | fail)) ?_
    | with_reducible refine c_lenX (by with_reducible assumption) (by (repeat (first | with_reducible assumption | with_reducible exact Ent.h | apply Ent.t)); (first | done | fail)) ?_
    | with_reducible refine c_lenQ cx (by with_reducible assumption) (by (repeat (first | with_reducible assumption | with_reducible exact Ent.h | apply Ent.t)); (first | done | fail)) ?_)
  | (with_reducible refine ck_x ?_; first
    | with_reducible refine x_Sg cx T ?_
    | with_reducible refine x_tup (by with_reducible assumption) (by (repeat (first | with_reducible assumption | with_reducible exact Ent.h | apply Ent.t)); (first | done | fail)) (by first | with_reducible exact at0 | with_reducible exact at1 | with_reducible exact at2) ?_
    | with_reducible refine x_lst (by with_reducible assumption) (by (repeat (first | with_reducible assumption | with_reducible exact Has.h | apply Has.t)); (first | done | fail)) (by first | with_reducible exact at0 | with_reducible exact at1 | with_reducible exact at2) ?_
    | with_reducible refine x_lstX (by with_reducible assumption) (by (repeat (first | with_reducible assumption | with_reducible exact Ent.h | apply Ent.t)); (first | done | fail)) (by first | with_reducible exact at0 | with_reducible exact at1 | with_reducible exact at2) ?_)
  | (with_reducible refine ck_at ?_; first
    | with_reducible refine at_most cx T ?_
    | with_reducible refine at_pieces cx T (by with_reducible assumption) (by (repeat (first | with_reducible assumption | with_reducible exact Ent.h | apply Ent.t)); (first | done | fail)) ?_
    | with_reducible refine at_front cx T (by with_reducible assumption) (by (repeat (first | with_reducible assumption | with_reducible exact Ent.h | apply Ent.t)); (first | done | fail)) ?_
    | with_reducible refine at_back cx T (by with_reducible assumption) (by (repeat (first | with_reducible assumption | with_reducible exact Ent.h | apply Ent.t)); (first | done | fail)) ?_
    | with_reducible refine at_fs cx T (by with_reducible assumption) (by (repeat (first | with_reducible assumption | with_reducible exact Ent.h | apply Ent.t)); (first | done | fail)) ?_
    | with_reducible refine at_bs cx T (by with_reducible assumption) (by (repeat (first | with_reducible assumption | with_reducible exact Ent.h | apply Ent.t)); (first | done | fail)) ?_)
  | (with_reducible refine ck_t ?_; first
    | (with_reducible refine ck_tc ?_; with_reducible refine t_cmp ?_)
    | (with_reducible refine ck_tc ?_; with_reducible refine t_chain ?_)
    | with_reducible refine t_not ?_
    | with_reducible refine t_and ?_
    | with_reducible refine t_or ?_
    | with_reducible refine t_val ?_)
  | (with_reducible refine ck_w ?_; first
    | with_reducible refine ww_and ?_
    | with_reducible refine ww_or ?_
    | with_reducible refine ww_and1 ?_
    | with_reducible refine ww_or1 ?_)
  | (with_reducible refine ck_p ?_; first
    | with_reducible refine p_l0 (by with_reducible assumption) (by (repeat (first | with_reducible assumption | with_reducible exact Put.h | apply Put.t)); (first | done | fail)) ?_
    | with_reducible refine p_l1 (by with_reducible assumption) (by (repeat (first | with_reducible assumption | with_reducible exact Put.h | apply Put.t)); (first | done | fail)) ?_
    | with_reducible refine p_l2 (by with_reducible assumption) (by (repeat (first | with_reducible assumption | with_reducible exact Put.h | apply Put.t)); (first | done | fail)) ?_)
  | (with_reducible refine ck_f ?_; first
    | with_reducible refine f_str (Nat.le_trans (by repeat (first | with_reducible exact l_emp | with_reducible exact l_en | with_reducible exact l_sp | with_reducible exact l_dir | with_reducible assumption | with_reducible exact l_frt (by first | with_reducible assumption | exact log_ok (by omega)) | with_reducible exact l_int (by first | with_reducible assumption | exact log_ok (by omega)) | with_reducible apply l_app | with_reducible exact Nat.le_refl _)) (Nat.le_of_ble_eq_true (by kernel_rfl))) ?_
    | with_reducible refine f_int (by first | with_reducible assumption | exact log_ok (by omega)) ?_)
  | (with_reducible refine ck_j ?_; first
    | with_reducible refine wj_nil ?_
    | with_reducible refine wj_cons ?_)
  | (with_reducible refine ck_g ?_; first
    | (with_reducible refine ck_gn ?_; with_reducible refine g_name cx (by (repeat (first | with_reducible exact SetAt.h | apply SetAt.t)); (first | done | fail)) ?_)
    | (with_reducible refine ck_gx ?_; with_reducible refine g_sub ?_))
  | (with_reducible refine ck_i ?_; first
    | with_reducible refine i_not ?_
    | with_reducible refine i_t (by with_reducible rfl) ?_
    | with_reducible refine i_t ⟨rfl, rfl, rfl⟩ ?_
    | with_reducible refine i_t (by with_reducible assumption) ?_
    | with_reducible refine i_f (by with_reducible assumption) ?_
    | with_reducible refine i_t (by omega) ?_
    | with_reducible refine i_f (by omega) ?_
    | with_reducible refine i_t (by simp only [List.length_cons, List.length_nil]; omega) ?_
    | with_reducible refine i_f (by simp only [List.length_cons, List.length_nil]; omega) ?_)
  | (with_reducible refine ck_i ?_; first
    | with_reducible refine iteT ?_)
  | (with_reducible refine ck_i ?_; first
    | with_reducible refine iteF ?_)
  | (with_reducible refine ck_st ?_; first
    | with_reducible refine k_set (by (repeat (first | with_reducible exact SetAt.h | apply SetAt.t)); (first | done | fail)) ?_)
  | with_reducible refine k_Frame (by with_reducible assumption) (by omega) (by omega) (fun p H kn => ?_)
  | with_reducible refine k_sj (by repeat (first | with_reducible exact l_emp | with_reducible exact l_en | with_reducible exact l_sp | with_reducible exact l_dir | with_reducible assumption | with_reducible exact l_frt (by first | with_reducible assumption | exact log_ok (by omega)) | with_reducible exact l_int (by first | with_reducible assumption | exact log_ok (by omega)) | with_reducible apply l_app | with_reducible exact Nat.le_refl _)) (by kernel_rfl) ?_
  | with_reducible refine k_bl ?_
  | with_reducible refine o_neg ?_
  | with_reducible refine k_sfld (by with_reducible assumption) (by (repeat (first | with_reducible assumption | with_reducible exact Put.h | apply Put.t)); (first | done | fail)) (by repeat (first | with_reducible exact FL.z | apply FL.s)) (by with_unfolding_all rfl) ?_
  | with_reducible refine gs_nil ?_
  | with_reducible refine gs_cons ?_
  | (with_reducible refine ⟨_, _, _, (by with_reducible assumption), (by with_unfolding_all exact Nat.le_of_ble_eq_true rfl), ?_⟩; intro p H kn)
  | (with_reducible intro H kn)))
/-! k03: what is due for a text -/
theorem inV_ends {z : Str} : inV (.str z) [.str "fixed", .str "free"] = decide (isEnd z) := by
  by_cases h : isEnd z
  · rw [decide_eq_true h]
    rcases h with rfl | rfl <;> rfl
  · rw [decide_eq_false h]
    unfold isEnd at h
    have h1 : ¬ (("fixed" : Str) = z) := fun e => h (.inl e.symm)
    have h2 : ¬ (("free" : Str) = z) := fun e => h (.inr e.symm)
    simp [inV, eqV, h1, h2]
def spDue : Sp := fun vs H Q _ => ∃ (z : Str) (R : Hp → Prop) (N : List (Addr × (HO → Prop))) (L : List (Addr × Obj)), vs = [.str z] ∧ z.length ≤ 90000 ∧ Kn R N L H ∧
  (badP (Txt.split z " ") = none → ∀ p H', Kn (Cj (Ex p (.tup [.str (part (Txt.split z " ") 0), .int (numV (part (Txt.split z " ") 1)), .str (part (Txt.split z " ") 2)])) R) N L H' → Q (.ref p) H') ∧ ∀ i, badP (Txt.split z " ") = some i → ∀ p H', Kn R ((p, Is (.lst [.str "text", .int i])) :: N) L H' → Q (.ref p) H'
section
variable {P : Program} {w : World} {K : PySem.W.Frag} {mg : Str → Option Value} {base : Heap}
section
variable {k : Nat} {VL AL : List (Option Str)} {GL : List Str} {E : WX} {X : Cx} {H : Hp} {Q : VK} {R : Hp → Prop} {M : List (Addr × (HO → Prop))} {L : List (Addr × Obj)} {a : Addr}
theorem o_notInDg {c : Nat} (h : Q (.bl (!isDg c)) H) : Wop X (compareOp .NotIn) (.str ⟨#[c]⟩) (.str "0123456789") H Q := ofOp op_notIn_sign ⟨c, _, rfl, rfl, h⟩
theorem o_ninEnds (cx : CxI P w K mg base k VL AL GL E X) {z : Str} {p : Addr} (kn : Kn R M L H) (e : Ent R (Ex p (.tup [.str "fixed", .str "free"]))) (h : Q (.bl (!decide (isEnd z))) H) : Wop X (compareOp .NotIn) (.str z) (.ref p) H Q := by
  refine o_notInQ (xs := [.str "fixed", .str "free"]) cx (.inr (.inl (.inl (kn.get e)))) rfl rfl ?_
  rw [inV_ends]
  exact h
end
theorem ok_due {fa : Addr} {fd : FuncData} (F : Fun K "_law_due" "_law_due" s_due fa fd) (bl : ∀ x ∈ blts, mg x = none) : Fk P w K mg base 1 fa fd ["_law_text"] spDue := by
  refine fn_okC F sc_due nq_due ck_due bl (fun vs H Q E h => ?_) (fun X H vs Q E cx cn h => ?_)
  · obtain ⟨z, R, N, L, rfl, _⟩ := h
    rfl
  · obtain ⟨z, R, N, L, rfl, hz, kn, k, kb⟩ := h
    have l0 := PyProof.Rows.split_pos z " "
    have l1 := PyProof.Rows.split_le z " "
    have pl : ∀ j, (part (Txt.split z " ") j).length ≤ 90000 := fun j => part_len hz
    change Wss X _ _ [_, _, _, _] _
    refine s_set cx ?_
    refine w_split cx ?_
    walk_at "w"
    refine ⟨z, rfl, ?_⟩
    walk_at "w"
    refine ⟨_, _, _, _, rfl, by decide +kernel, by rw [PySem.sizeLine_eq]; omega, kn, fun lp H kn => ?_⟩
    revert k kb pl l0 l1 kn
    generalize Txt.split z " " = ls
    intro k kb l0 l1 pl kn
    have hl : (ls.map V.str).length = ls.length := List.length_map _
    have bad : ∀ {i : Int} {H : Hp} {p2 : Addr}, badP ls = some i → Kn R ((p2, Is (.lst [.str "text", .int i])) :: (lp, Is (.lst (ls.map V.str))) :: N) L H → Q (.ref p2) H :=
      fun {i H p2} hz kn => kb i hz _ _ (kn.take (.t .h))
    walk_at "w"
    refine x_lst kn (by walk_at "has") (at_part (j := 0) (by omega)) ?_
    walk_at "w"
    refine o_ninEnds cx kn (by walk_at "ent") ?_
    replace kn := kn.weak (.t .r)
    refine ⟨_, rfl, ?_⟩
    by_cases h0 : isEnd (part ls 0)
    · rw [decide_eq_true h0]
      refine i_b (fun h => absurd h (by decide)) (fun _ => ?_)
      walk_at "w"
      refine i_2 (fun h1 => ?_) (fun h1 => ?_)
      · have h1' : 1 < ls.length := by omega
        walk_at "w"
        refine x_lst kn (by walk_at "has") (at_part (j := 1) h1') ?_
        have hy := pl 1
        have hok : okN ls ↔ (okNum (part ls 1) = true ∧ numV (part ls 1) ≤ 1000000000000000000) := ⟨fun z => z.2, fun z => ⟨h1', z⟩⟩
        revert hok hy k
        generalize part ls 1 = y
        intro k hy hok
        have wrong1 : ∀ {H : Hp} {p2 : Addr}, ¬ (okNum y = true ∧ numV y ≤ 1000000000000000000) → Kn R ((p2, Is (.lst [.str "text", .int 1])) :: (lp, Is (.lst (ls.map V.str))) :: N) L H → Q (.ref p2) H := fun {H p2} hk kn => bad (by unfold badP; rw [if_neg (not_not_intro h0), if_pos (fun z => hk (hok.mp z))]) kn
        walk_at "w"
        refine i_2 (fun hy0 => ?_) (fun hy0 => ?_)
        · walk_at "w"
          refine wrong1 (fun z => ?_) kn
          subst hy0
          exact absurd z.1 (by decide +kernel)
        · walk_at "w"
          refine w_lc1 bo_due_0 bv_due_0 ba_due_0 bg_due_0 cx cn (by kernel_rfl) ?_
          refine wi_str ?_
          walk_at "w"
          refine ⟨y, rfl, _, _, _, itw_str, fun D i acc H => acc = ((y.cps.toList.take i).filter fun c => !isDg c).map (fun c => V.str ⟨#[c]⟩) ∧ Kn R ((D, Is (.lst acc)) :: (lp, Is (.lst (ls.map V.str))) :: N) L H, ⟨_, _, _, kn, fun D H2 kn => ⟨rfl, kn⟩⟩, fun _ _ _ _ _ _ => trivial, ?_, ?_⟩
          · intro D i acc H hi ⟨ha, kn⟩ X cx
            change Wg X _ _ [_, _, _, _] _ _
            refine g_name cx (by walk_at "set") ?_
            refine ⟨rfl, fun X cx cn => ?_⟩
            walk_at "w"
            refine o_notInDg ?_
            have q : y.cps.toList[i]? = some (y.cps.getD i 0) := by
              have q' : i < y.cps.size := hi
              simp [q', Array.getD]
            walk_at "w"
            refine i_b (fun hc => ⟨?_, kn⟩) (fun hc X cx cn => ?_)
            · have hf : [y.cps.getD i 0].filter (fun c => !isDg c) = [] := by
                rw [List.filter_cons, hc]
                rfl
              subst ha
              rw [List.take_add_one, q, List.filter_append]
              show _ = List.map _ (_ ++ [y.cps.getD i 0].filter _)
              rw [hf, List.append_nil]
            · walk_at "w"
              refine ⟨_, _, _, kn, ?_, fun H5 kn => ⟨?_, kn⟩⟩
              · subst ha
                have q1 := List.length_filter_le (fun c => !isDg c) (y.cps.toList.take i)
                rw [List.length_take] at q1
                rw [List.length_map]
                have q2 : y.cps.toList.length = y.length := rfl
                omega
              · have hf : [y.cps.getD i 0].filter (fun c => !isDg c) = [y.cps.getD i 0] := by
                  rw [List.filter_cons, hc]
                  rfl
                subst ha
                rw [List.take_add_one, q, List.filter_append]
                show _ = List.map _ (_ ++ [y.cps.getD i 0].filter _)
                rw [hf, List.map_append]
                rfl
          · intro D acc H ⟨ha, kn⟩
            walk_at "w"
            refine o_neLE cx (.inl (.inl (kn.is (.t .h)))) (.inl (.inl (kn.is .h))) ?_
            replace kn := (kn.drop1).drop1
            refine ⟨_, rfl, ?_⟩
            have e : y.cps.toList.take y.cps.size = y.cps.toList := List.take_of_length_le (Nat.le_refl _)
            have ea : acc.isEmpty = y.cps.toList.all isDg := by
              rw [ha, e, List.isEmpty_map, Bool.eq_iff_iff, List.isEmpty_iff, List.filter_eq_nil_iff, List.all_eq_true]
              simp
            rw [ea]
            refine i_b (fun h2 => ?_) (fun h2 => ?_)
            · walk_at "w"
              refine wrong1 (fun z => ?_) kn
              have z1 := z.1
              unfold okNum at z1
              simp only [Bool.and_eq_true] at z1
              rw [z1.1.2] at h2
              cases h2
            · have hall : y.cps.toList.all isDg = true := by simpa using h2
              have z0 : (0 : Int) < (y.cps.toList.length : Int) := by
                have hne : y.cps.toList ≠ [] := fun q => hy0 (by
                  obtain ⟨a⟩ := y
                  have e : a = #[] := by simpa using q
                  rw [e]
                  decide +kernel)
                have := List.length_pos_iff.mpr hne
                omega
              obtain ⟨c, hc⟩ := atI_lt (xs := y.cps.toList) (Int.le_refl 0) z0
              walk_at "w"
              refine x_str (by rw [PySem.sizeLine_eq]; omega) hc ?_
              have hc' : y.cps.toList.head? = some c := by
                unfold atI ixN at hc
                rw [if_pos (by decide), if_pos z0] at hc
                have hc2 : y.cps.toList[0]? = some c := hc
                rw [← List.head?_eq_getElem?] at hc2
                exact hc2
              have e4 : ((⟨#[c]⟩ : Str) = "0") ↔ c = 48 := by
                have q : ("0" : Str) = ⟨#[48]⟩ := by decide +kernel
                rw [q]
                simp
              walk_at "w"
              refine i_2 (fun h3 => ?_) (fun h3 => ?_)
              · walk_at "w"
                rw [e4] at h3
                refine wrong1 (fun z => ?_) kn
                have z1 := z.1
                unfold okNum at z1
                rw [hc', h3] at z1
                simp at z1
              · rw [e4] at h3
                walk_at "w"
                refine i_2 (fun h4 => ?_) (fun h4 => ?_)
                · walk_at "w"
                  refine wrong1 (fun z => ?_) kn
                  have z1 := z.1
                  unfold okNum at z1
                  simp only [Bool.and_eq_true, decide_eq_true_eq] at z1
                  omega
                · have hyl : y.length ≤ 19 := by omega
                  walk_at "w"
                  have hint : intText? y = some (numV y) := PySem.intText_digits (x := y) (fun c hc => isDg_iff.mp (List.all_eq_true.mp hall c hc)) (fun q => by rw [q] at hc'; cases hc') (by omega)
                  refine c_intS hint (by omega) ?_
                  walk_at "w"
                  refine i_2 (fun h5 => ?_) (fun h5 => ?_)
                  · walk_at "w"
                    exact wrong1 (fun z => by have := z.2; omega) kn
                  · have hk : okN ls := hok.mpr ⟨by
                      unfold okNum
                      rw [hc', hall]
                      have a1 : 1 ≤ y.length := by
                        have q : y.cps.toList.length = y.length := rfl
                        omega
                      simp [a1, hyl, h3], by omega⟩
                    walk_at "w"
                    refine i_2 (fun h6 => ?_) (fun h6 => ?_)
                    · walk_at "w"
                      exact bad (by unfold badP; rw [if_neg (not_not_intro h0), if_neg (not_not_intro hk), if_pos (fun z => absurd z.1 (by omega))]) kn
                    · walk_at "w"
                      refine x_lst kn (by walk_at "has") (at_part (j := 2) (by omega)) ?_
                      walk_at "w"
                      refine o_ninEnds cx kn (by walk_at "ent") ?_
                      replace kn := kn.weak (.t .r)
                      refine ⟨_, rfl, ?_⟩
                      by_cases h7 : isEnd (part ls 2)
                      · rw [decide_eq_true h7]
                        refine i_b (fun h => absurd h (by decide)) (fun _ => ?_)
                        walk_at "w"
                        refine i_2 (fun h8 => ?_) (fun h8 => ?_)
                        · walk_at "w"
                          exact bad (by unfold badP; rw [if_neg (not_not_intro h0), if_neg (not_not_intro hk), if_neg (not_not_intro ⟨by omega, h7⟩), if_pos (by omega)]) kn
                        · walk_at "w"
                          refine x_lst kn (by walk_at "has") (at_part (j := 0) (by omega)) ?_
                          walk_at "w"
                          refine c_intS hint (by omega) ?_
                          walk_at "w"
                          refine x_lst kn (by walk_at "has") (at_part (j := 2) (by omega)) ?_
                          walk_at "w"
                          exact k (by unfold badP; rw [if_neg (not_not_intro h0), if_neg (not_not_intro hk), if_neg (not_not_intro ⟨by omega, h7⟩), if_neg (by omega)]) _ _ kn.drop1
                      · rw [decide_eq_false h7]
                        refine i_b (fun _ => ?_) (fun h => absurd h (by decide))
                        walk_at "w"
                        exact bad (by unfold badP; rw [if_neg (not_not_intro h0), if_neg (not_not_intro hk), if_pos (fun z => h7 z.2)]) kn
      · walk_at "w"
        refine bad ?_ kn
        unfold badP
        rw [if_neg (not_not_intro h0), if_pos (fun z => absurd z.1 (by omega))]
    · rw [decide_eq_false h0]
      refine i_b (fun _ => ?_) (fun h => absurd h (by decide))
      walk_at "w"
      exact bad (by unfold badP; rw [if_pos h0]) kn
end

end
end U

namespace U
section
open PySem PySem.Spec L2
open PySem.W (findIn isFn mroIn Looks InstAt)
open PyProof.Rows hiding St
set_option hygiene false
local macro_rules | `(tactic| walk_at "w") => `(tactic| repeat (first
  | (with_reducible refine ck_e ?_; first
    | (with_reducible refine ck_call ?_; with_reducible refine w_call cx (by (repeat (first | with_reducible exact In.h | apply In.t)); (first | done | fail)) D0 (by kernel_rfl) ?_)
    | (with_reducible refine ck_call ?_; with_reducible refine w_call cx (by (repeat (first | with_reducible exact In.h | apply In.t)); (first | done | fail)) D1 (by kernel_rfl) ?_)
    | (with_reducible refine ck_call ?_; with_reducible refine w_call cx (by (repeat (first | with_reducible exact In.h | apply In.t)); (first | done | fail)) D2 (by kernel_rfl) ?_)
    | (with_reducible refine ck_call ?_; with_reducible refine w_call cx (by (repeat (first | with_reducible exact In.h | apply In.t)); (first | done | fail)) D3 (by kernel_rfl) ?_)
    | (with_reducible refine ck_call ?_; with_reducible refine w_call cx (by (repeat (first | with_reducible exact In.h | apply In.t)); (first | done | fail)) D4 (by kernel_rfl) ?_)
    | (with_reducible refine ck_call ?_; with_reducible refine w_call cx (by (repeat (first | with_reducible exact In.h | apply In.t)); (first | done | fail)) D5 (by kernel_rfl) ?_)
    | (with_reducible refine ck_call ?_; with_reducible refine w_call cx (by (repeat (first | with_reducible exact In.h | apply In.t)); (first | done | fail)) D6 (by kernel_rfl) ?_)
    | (with_reducible refine ck_call ?_; with_reducible refine w_call cx (by (repeat (first | with_reducible exact In.h | apply In.t)); (first | done | fail)) D7 (by kernel_rfl) ?_)
    | (with_reducible refine ck_call ?_; with_reducible refine w_call cx (by (repeat (first | with_reducible exact In.h | apply In.t)); (first | done | fail)) D8 (by kernel_rfl) ?_)
    | (with_reducible refine ck_call ?_; with_reducible refine w_call cx (by (repeat (first | with_reducible exact In.h | apply In.t)); (first | done | fail)) D9 (by kernel_rfl) ?_)
    | (with_reducible refine ck_ix ?_; with_reducible refine w_slL cx ?_)
    | (with_reducible refine ck_nm ?_; with_reducible refine w_var cx (by (repeat (first | with_reducible exact SlotIs.h | apply SlotIs.t)); (first | done | fail)) ?_)
    | with_reducible refine w_int ?_
    | with_reducible refine w_bin ?_
    | (with_reducible refine ck_ix ?_; with_reducible refine w_ix ?_)
    | (with_reducible refine ck_cmp ?_; with_reducible refine w_cmp ?_)
    | with_reducible refine w_str ?_
    | with_reducible refine w_tupK ?_
    | with_reducible refine w_lstK ?_
    | (with_reducible refine ck_call ?_; with_reducible refine w_len cx (by (repeat (first | with_reducible exact In.h | apply In.t)); (first | done | fail)) ?_)
    | (with_reducible refine ck_call ?_; with_reducible refine w_max cx (by (repeat (first | with_reducible exact In.h | apply In.t)); (first | done | fail)) ?_)
    | (with_reducible refine ck_call ?_; with_reducible refine w_min cx (by (repeat (first | with_reducible exact In.h | apply In.t)); (first | done | fail)) ?_)
    | (with_reducible refine ck_call ?_; with_reducible refine w_abs cx (by (repeat (first | with_reducible exact In.h | apply In.t)); (first | done | fail)) ?_)
    | (with_reducible refine ck_call ?_; with_reducible refine w_repr cx (by (repeat (first | with_reducible exact In.h | apply In.t)); (first | done | fail)) ?_)
    | (with_reducible refine ck_call ?_; with_reducible refine w_isinstance cx (by (repeat (first | with_reducible exact In.h | apply In.t)); (first | done | fail)) ?_)
    | (with_reducible refine ck_call ?_; with_reducible refine w_sorted cx (by (repeat (first | with_reducible exact In.h | apply In.t)); (first | done | fail)) ?_)
    | (with_reducible refine ck_call ?_; with_reducible refine w_all cx (by (repeat (first | with_reducible exact In.h | apply In.t)); (first | done | fail)) ?_)
    | (with_reducible refine ck_call ?_; with_reducible refine w_any cx (by (repeat (first | with_reducible exact In.h | apply In.t)); (first | done | fail)) ?_)
    | (with_reducible refine ck_call ?_; with_reducible refine w_sum cx (by (repeat (first | with_reducible exact In.h | apply In.t)); (first | done | fail)) ?_)
    | (with_reducible refine ck_call ?_; with_reducible refine w_intT cx (by (repeat (first | with_reducible exact In.h | apply In.t)); (first | done | fail)) ?_)
    | (with_reducible refine ck_call ?_; with_reducible refine w_strT cx (by (repeat (first | with_reducible exact In.h | apply In.t)); (first | done | fail)) ?_)
    | (with_reducible refine ck_call ?_; with_reducible refine w_tupleT cx (by (repeat (first | with_reducible exact In.h | apply In.t)); (first | done | fail)) ?_)
    | (with_reducible refine ck_call ?_; with_reducible refine w_listT cx (by (repeat (first | with_reducible exact In.h | apply In.t)); (first | done | fail)) ?_)
    | (with_reducible refine ck_call ?_; with_reducible refine w_dictT cx (by (repeat (first | with_reducible exact In.h | apply In.t)); (first | done | fail)) ?_)
    | (with_reducible refine ck_call ?_; with_reducible refine w_boolT cx (by (repeat (first | with_reducible exact In.h | apply In.t)); (first | done | fail)) ?_)
    | (with_reducible refine ck_atr ?_; with_reducible refine w_attr ?_)
    | with_reducible refine w_un ?_
    | (with_reducible refine ck_cmp ?_; with_reducible refine w_chain ?_)
    | with_reducible refine w_and ?_
    | with_reducible refine w_or ?_
    | with_reducible refine w_bool1 ?_
    | with_reducible refine w_not ?_
    | with_reducible refine w_if ?_
    | with_reducible refine w_bl ?_
    | with_reducible refine w_non ?_
    | with_reducible refine w_joined ?_
    | with_reducible refine w_joined1 ?_
    | with_reducible refine w_fmt ?_)
  | (with_reducible refine ck_a ?_; first
    | with_reducible refine wa_star cx ?_
    | with_reducible refine wa_cons ?_
    | with_reducible refine wa_nil ?_)
  | (with_reducible refine ck_s ?_; first
    | with_reducible refine s_aug cx (by (repeat (first | with_reducible exact SlotIs.h | apply SlotIs.t)); (first | done | fail)) rfl ?_
    | (with_reducible refine ck_asgn ?_; with_reducible refine s_set cx ?_)
    | with_reducible refine s_if ?_
    | with_reducible refine s_ret ?_
    | with_reducible refine s_nil ?_
    | (with_reducible refine ck_xpr ?_; with_reducible refine s_expr ?_)
    | (with_reducible refine ck_asgn ?_; with_reducible refine s_asg ?_)
    | with_reducible refine s_pass ?_
    | with_reducible refine s_break ?_
    | with_reducible refine s_cont ?_
    | with_reducible refine s_retN ?_)
  | (with_reducible refine ck_o ?_; first
    | with_reducible refine o_eqI ?_
    | with_reducible refine o_addSn (by repeat (first | with_reducible exact l_emp | with_reducible exact l_en | with_reducible exact l_sp | with_reducible exact l_dir | with_reducible assumption | with_reducible exact l_frt (by first | with_reducible assumption | exact log_ok (by omega)) | with_reducible exact l_int (by first | with_reducible assumption | exact log_ok (by omega)) | with_reducible apply l_app | with_reducible exact Nat.le_refl _)) (by repeat (first | with_reducible exact l_emp | with_reducible exact l_en | with_reducible exact l_sp | with_reducible exact l_dir | with_reducible assumption | with_reducible exact l_frt (by first | with_reducible assumption | exact log_ok (by omega)) | with_reducible exact l_int (by first | with_reducible assumption | exact log_ok (by omega)) | with_reducible apply l_app | with_reducible exact Nat.le_refl _)) (by kernel_rfl) ?_
    | with_reducible refine o_add ?_
    | with_reducible refine o_sub ?_
    | with_reducible refine o_lt ?_
    | with_reducible refine o_le ?_
    | with_reducible refine o_gt ?_
    | with_reducible refine o_ge ?_
    | with_reducible refine o_eqI ?_
    | with_reducible refine o_neI ?_
    | with_reducible refine o_eqS ?_
    | with_reducible refine o_neS ?_
    | with_reducible refine o_neB ?_
    | with_reducible refine o_eqB ?_
    | with_reducible refine o_isN ?_
    | with_reducible refine o_notN ?_
    | with_reducible refine o_mod (by omega) ?_
    | with_reducible refine o_mulL (by omega) ?_
    | with_reducible refine o_mulR (by omega) ?_
    | with_reducible refine o_fdiv (by omega) ?_
    | with_reducible refine o_pow (by simp only [Int.reduceToNat, Int.reducePow]; first | done | rfl) (by omega) (by decide +kernel) ?_
    | with_reducible refine o_neL0 cx (by with_reducible assumption) (by (repeat (first | with_reducible assumption | with_reducible exact Has.h | apply Has.t)); (first | done | fail)) (by (repeat (first | with_reducible assumption | with_reducible exact Has.h | apply Has.t)); (first | done | fail)) ?_
    | with_reducible refine o_fdivB (by omega) ?_)
  | (with_reducible refine ck_c ?_; first
    | with_reducible refine c_strI (by first | with_reducible assumption | exact log_ok (by omega)) ?_
    | with_reducible refine c_reprI (by first | with_reducible assumption | exact log_ok (by omega)) ?_
    | with_reducible refine c_lenS (Nat.le_trans (by repeat (first | with_reducible exact l_emp | with_reducible exact l_en | with_reducible exact l_sp | with_reducible exact l_dir | with_reducible assumption | with_reducible exact l_frt (by first | with_reducible assumption | exact log_ok (by omega)) | with_reducible exact l_int (by first | with_reducible assumption | exact log_ok (by omega)) | with_reducible apply l_app | with_reducible exact Nat.le_refl _)) (Nat.le_of_ble_eq_true (by kernel_rfl))) ?_
    | with_reducible refine c_max cx ?_
    | with_reducible refine c_min cx ?_
    | with_reducible refine c_abs ?_
    | with_reducible refine c_intI ?_
    | with_reducible refine c_intB ?_
    | with_reducible refine c_strS ?_
    | with_reducible refine c_lenT (by with_reducible assumption) (by (repeat (first | with_reducible assumption | with_reducible exact Ent.h | apply Ent.t)); (first | done | fail)) ?_
    | with_reducible refine c_lenL (by with_reducible assumption) (by (repeat (first | with_reducible assumption | with_reducible exact Has.h | apply Has.t)); (first | done | fail)) ?_
    | with_reducible refine c_lenX (by with_reducible assumption) (by (repeat (first | with_reducible assumption | with_reducible exact Ent.h | apply Ent.t)); (first | done | fail)) ?_
    | with_reducible refine c_lenQ cx (by with_reducible assumption) (by (repeat (first | with_reducible assumption | with_reducible exact Ent.h | apply Ent.t)); (first | done | fail)) ?_)
  | (with_reducible refine ck_x ?_; first
    | with_reducible refine x_tup (by with_reducible assumption) (by (repeat (first | with_reducible assumption | with_reducible exact Ent.h | apply Ent.t)); (first | done | fail)) (by first | with_reducible exact at0 | with_reducible exact at1 | with_reducible exact at2) ?_
    | with_reducible refine x_lst (by with_reducible assumption) (by (repeat (first | with_reducible assumption | with_reducible exact Has.h | apply Has.t)); (first | done | fail)) (by first | with_reducible exact at0 | with_reducible exact at1 | with_reducible exact at2) ?_
    | with_reducible refine x_lstX (by with_reducible assumption) (by (repeat (first | with_reducible assumption | with_reducible exact Ent.h | apply Ent.t)); (first | done | fail)) (by first | with_reducible exact at0 | with_reducible exact at1 | with_reducible exact at2) ?_)
  | (with_reducible refine ck_t ?_; first
    | (with_reducible refine ck_tc ?_; with_reducible refine t_cmp ?_)
    | (with_reducible refine ck_tc ?_; with_reducible refine t_chain ?_)
    | with_reducible refine t_not ?_
    | with_reducible refine t_and ?_
    | with_reducible refine t_or ?_
    | with_reducible refine t_val ?_)
  | (with_reducible refine ck_w ?_; first
    | with_reducible refine ww_and ?_
    | with_reducible refine ww_or ?_
    | with_reducible refine ww_and1 ?_
    | with_reducible refine ww_or1 ?_)
  | (with_reducible refine ck_p ?_; first
    | with_reducible refine p_l0 (by with_reducible assumption) (by (repeat (first | with_reducible assumption | with_reducible exact Put.h | apply Put.t)); (first | done | fail)) ?_
    | with_reducible refine p_l1 (by with_reducible assumption) (by (repeat (first | with_reducible assumption | with_reducible exact Put.h | apply Put.t)); (first | done | fail)) ?_
    | with_reducible refine p_l2 (by with_reducible assumption) (by (repeat (first | with_reducible assumption | with_reducible exact Put.h | apply Put.t)); (first | done | fail)) ?_)
  | (with_reducible refine ck_f ?_; first
    | with_reducible refine f_str (Nat.le_trans (by repeat (first | with_reducible exact l_emp | with_reducible exact l_en | with_reducible exact l_sp | with_reducible exact l_dir | with_reducible assumption | with_reducible exact l_frt (by first | with_reducible assumption | exact log_ok (by omega)) | with_reducible exact l_int (by first | with_reducible assumption | exact log_ok (by omega)) | with_reducible apply l_app | with_reducible exact Nat.le_refl _)) (Nat.le_of_ble_eq_true (by kernel_rfl))) ?_
    | with_reducible refine f_int (by first | with_reducible assumption | exact log_ok (by omega)) ?_)
  | (with_reducible refine ck_j ?_; first
    | with_reducible refine wj_nil ?_
    | with_reducible refine wj_cons ?_)
  | (with_reducible refine ck_g ?_; first
    | (with_reducible refine ck_gn ?_; with_reducible refine g_name cx (by (repeat (first | with_reducible exact SetAt.h | apply SetAt.t)); (first | done | fail)) ?_)
    | (with_reducible refine ck_gx ?_; with_reducible refine g_sub ?_))
  | (with_reducible refine ck_i ?_; first
    | with_reducible refine i_not ?_
    | with_reducible refine i_t (by with_reducible rfl) ?_
    | with_reducible refine i_t ⟨rfl, rfl, rfl⟩ ?_
    | with_reducible refine i_t (by with_reducible assumption) ?_
    | with_reducible refine i_f (by with_reducible assumption) ?_
    | with_reducible refine i_t (by omega) ?_
    | with_reducible refine i_f (by omega) ?_
    | with_reducible refine i_t (by simp only [List.length_cons, List.length_nil]; omega) ?_
    | with_reducible refine i_f (by simp only [List.length_cons, List.length_nil]; omega) ?_)
  | (with_reducible refine ck_i ?_; first
    | with_reducible refine iteT ?_)
  | (with_reducible refine ck_i ?_; first
    | with_reducible refine iteF ?_)
  | (with_reducible refine ck_st ?_; first
    | with_reducible refine k_set (by (repeat (first | with_reducible exact SetAt.h | apply SetAt.t)); (first | done | fail)) ?_)
  | with_reducible refine wpo_none ?_
  | with_reducible refine wpo_some ?_
  | with_reducible refine wpo_none ?_
  | with_reducible refine wpo_some ?_
  | with_reducible refine k_sj (by repeat (first | with_reducible exact l_emp | with_reducible exact l_en | with_reducible exact l_sp | with_reducible exact l_dir | with_reducible assumption | with_reducible exact l_frt (by first | with_reducible assumption | exact log_ok (by omega)) | with_reducible exact l_int (by first | with_reducible assumption | exact log_ok (by omega)) | with_reducible apply l_app | with_reducible exact Nat.le_refl _)) (by kernel_rfl) ?_
  | with_reducible refine k_bl ?_
  | with_reducible refine o_neg ?_
  | with_reducible refine k_sfld (by with_reducible assumption) (by (repeat (first | with_reducible assumption | with_reducible exact Put.h | apply Put.t)); (first | done | fail)) (by repeat (first | with_reducible exact FL.z | apply FL.s)) (by with_unfolding_all rfl) ?_
  | with_reducible refine gs_nil ?_
  | with_reducible refine gs_cons ?_
  | (with_reducible refine ⟨_, _, _, (by with_reducible assumption), (by with_unfolding_all exact Nat.le_of_ble_eq_true rfl), ?_⟩; intro p H kn)
  | (with_reducible intro H kn)))
/-! k03: the law, statement by statement -/
def forB (st : Stmt) : List Stmt := match st with
  | .For _ _ b _ _ => b
  | _ => []
def ps_ : Stmt := .Pass ⟨0, 0, 0, 0⟩
def tb : List Stmt := forB ((defBody s_law).getD 1 ps_)
def tbi (i : Nat) : Stmt := tb.getD i ps_
theorem k_source {K : PySem.W.Frag} {a : Addr} {ns : List Int} {i : Int} {R : Hp → Prop} {N : List (Addr × (HO → Prop))} {L : List (Addr × Obj)} {H : Hp} {Q : VK} {E : XK} (h0 : 0 ≤ i) (h1 : i ≤ 100) (h2 : ns.length ≤ 100) (en : Ent R fun J => SqL K J a (ns.map V.int)) (kn : Kn R N L H)
    (h : ∀ (s : Addr) (H' : Hp), Kn R ((s, IsSrc 0) :: N) L H' → Q (.ref s) H') : spSource K [.ref a, .int i] H Q E := ⟨a, ns, i, R, N, L, rfl, h0, h1, h2, en, kn, h⟩
theorem IsSrc.mono {c d : Int} (h : c ≤ d) : ∀ o, IsSrc c o → IsSrc d o := fun o ⟨a, s, i, e, h0, h1, h2, h3, h4⟩ => ⟨a, s, i, e, h0, h1, h2, h3, by omega⟩
theorem k_draw {s : Addr} {b c : Int} {R : Hp → Prop} {N N' : List (Addr × (HO → Prop))} {L : List (Addr × Obj)} {H : Hp} {Q : VK} {E : XK} (hp : Put s (IsSrc c) (IsSrc (c + 1)) N N') (kn : Kn R N L H) (h0 : 0 < b) (h1 : b < 1361129467683753853853498429727072845824) (c0 : 0 ≤ c) (c1 : c ≤ 1152921504606846976)
    (h : ∀ (v : Int) (H' : Hp), 0 ≤ v → v < b → Kn R N' L H' → Q (.int v) H') : spDraw [.ref s, .int b] H Q E := ⟨s, b, c, R, N, N', L, rfl, h0, h1, c0, c1, hp, kn, h⟩
def endsS : List Str := ["fixed", "free", "", "Fixed", "loose", "free ", "fixed\n"]
def pcs : List Int := [0, 1, -1, 1000000000000000000, 1000000000000000001, 1000000000000000000000000000000, -1000000000000000000, 57]
theorem at_int {xs : List Int} {j : Nat} (h : j < xs.length) : atI (xs.map V.int) (j : Int) = some (.int (xs.getD j 0)) := by
  unfold atI ixN
  rw [if_pos (by omega), if_pos (by rw [List.length_map]; omega)]
  simp [h]
theorem end_len (j : Nat) : (part endsS j).length ≤ 6 := by
  unfold part endsS
  match j with
  | 0 | 1 | 2 | 3 | 4 | 5 | 6 => decide +kernel
  | n + 7 => exact Nat.zero_le _
/-- the due word of a frame: what stands in the slot, what is made -/
def Due (o : Option Str) (dv : V) (D : List (Addr × (HO → Prop))) : Prop := (o = none → dv = .non) ∧ ∀ z, o = some z → ∃ q, dv = .ref q ∧ Has q (Is (.lst [.str "frame", .str z])) D
section
variable {P : Program} {w : World} {K : PySem.W.Frag} {mg : Str → Option Value} {base : Heap}
variable {X : Cx} {E : WX} {nx : St → Hp → Prop} {rt : VK} {bk ct : St → Hp → Prop} {H : Hp} {R : Hp → Prop} {a ep : Addr} {i : Int} {v3 v4 v5 v6 v7 v8 v9 v10 v11 : Option V} {rest : List Stmt} {ns : List Int}
theorem seg_A (cx : CxI P w K mg base 7 v_law v_law g_law E X) (D0 : Df P w K mg base "_law_source" 1 ["_law_script", "_law_index"] (spSource K)) (D1 : Df P w K mg base "_law_draw" 1 ["_law_source_here", "_law_bound"] spDraw) (kn : Kn R [(ep, Is (.lst (endsS.map V.str)))] [] H) (e0 : Ent R fun J => SqL K J a (ns.map V.int)) (hn : ns.length ≤ 100) (i0 : 0 ≤ i) (i1 : i ≤ 10)
    (h : ∀ (s : Addr) (n : Int) (ju jv : Nat) H', Kn R [(s, IsSrc 3), (ep, Is (.lst (endsS.map V.str)))] [] H' → Wss X rest ⟨nx, rt, bk, ct⟩ [some (.ref a), some (.ref ep), some (.int i), some (.ref s), some (.int n), some (.str (part endsS ju)), some (.str (part endsS jv)), some .non, v8, v9, v10, v11] H') :
    Wss X (tbi 0 :: tbi 1 :: tbi 2 :: tbi 3 :: tbi 4 :: rest) ⟨nx, rt, bk, ct⟩ [some (.ref a), some (.ref ep), some (.int i), v3, v4, v5, v6, v7, v8, v9, v10, v11] H := by
  change Wss X (_ :: _ :: _ :: _ :: _ :: rest) _ [_, _, _, _, _, _, _, _, _, _, _, _] _
  refine s_set cx ?_
  walk_at "w"
  refine k_source (by omega) (by omega) (by omega) e0 kn fun s H kn => ?_
  walk_at "w"
  refine s_set cx ?_
  walk_at "w"
  refine k_draw (by walk_at "put") kn (by omega) (by omega) (by omega) (by omega) fun v H v0 v1 kn => ?_
  obtain ⟨j, rfl⟩ : ∃ j : Nat, v = j := ⟨v.toNat, by omega⟩
  change Kn R ((p, Is (.lst (pcs.map V.int))) :: (s, IsSrc (0 + 1)) :: [(ep, Is (.lst (endsS.map V.str)))]) [] H at kn
  refine x_lst kn (by walk_at "has") (at_int (j := j) (by show j < 8; omega)) ?_
  replace kn := kn.drop1
  walk_at "w"
  refine s_set cx ?_
  walk_at "w"
  refine k_draw (by walk_at "put") kn (by omega) (by omega) (by omega) (by omega) fun v H v0 v1 kn => ?_
  obtain ⟨ju, rfl⟩ : ∃ j : Nat, v = j := ⟨v.toNat, by omega⟩
  refine x_lst kn (by walk_at "has") (at_part (j := ju) (by show ju < 7; omega)) ?_
  walk_at "w"
  refine s_set cx ?_
  walk_at "w"
  refine k_draw (by walk_at "put") kn (by omega) (by omega) (by omega) (by omega) fun v H v0 v1 kn => ?_
  obtain ⟨jv, rfl⟩ : ∃ j : Nat, v = j := ⟨v.toNat, by omega⟩
  refine x_lst kn (by walk_at "has") (at_part (j := jv) (by show jv < 7; omega)) ?_
  walk_at "w"
  refine s_set cx ?_
  walk_at "w"
  exact h _ _ _ _ _ (kn.imp .h (IsSrc.mono (by omega)))
theorem o_ninEndsL {k : Nat} {VL AL : List (Option Str)} {GL : List Str} {E : WX} {X : Cx} {H : Hp} {Q : VK} {R : Hp → Prop} {M : List (Addr × (HO → Prop))} {L : List (Addr × Obj)} (cx : CxI P w K mg base k VL AL GL E X) {z : Str} {p : Addr} (kn : Kn R M L H) (e : Has p (Is (.lst [.str "fixed", .str "free"])) M) (h : Q (.bl (!decide (isEnd z))) H) : Wop X (compareOp .NotIn) (.str z) (.ref p) H Q := by
  refine o_notInQ (xs := [.str "fixed", .str "free"]) cx (.inl (.inl (.inl (kn.is e)))) rfl rfl ?_
  rw [inV_ends]
  exact h
theorem Has.right {a : Addr} {A : HO → Prop} {N : List (Addr × (HO → Prop))} : ∀ {D : List (Addr × (HO → Prop))}, Has a A N → Has a A (D ++ N)
  | [], x => x
  | _ :: D, x => .t (Has.right (D := D) x)
theorem Has.left {a : Addr} {A : HO → Prop} {N D : List (Addr × (HO → Prop))} (h : Has a A D) : Has a A (D ++ N) := by
  induction h with
  | h => exact .h
  | t _ ih => exact .t ih
theorem Kn.dropL {R : Hp → Prop} {N : List (Addr × (HO → Prop))} {L : List (Addr × Obj)} {H : Hp} : ∀ {D : List (Addr × (HO → Prop))}, Kn R (D ++ N) L H → Kn R N L H
  | [], kn => kn
  | _ :: D, kn => Kn.dropL (D := D) kn.drop1
theorem badN_mem {n : Int} {u v z : Str} (h : badN n u v = some z) : z = "pieces" ∨ z = "front" ∨ z = "back" := by
  unfold badN at h
  (repeat' split at h) <;> first | cases h; done | (cases h; simp)
theorem seg_B {s : Addr} {n : Int} {u v : Str} (cx : CxI P w K mg base 7 v_law v_law g_law E X) (D2 : Df P w K mg base "_law_told" 5 ["_law_pieces", "_law_front", "_law_back"] spTold) (kn : Kn R [(s, IsSrc 3), (ep, Is (.lst (endsS.map V.str)))] [] H)
    (h : ∀ dv H', Kn R [(s, IsSrc 3), (ep, Is (.lst (endsS.map V.str)))] [] H' → Wss X rest ⟨nx, rt, bk, ct⟩ [some (.ref a), some (.ref ep), some (.int i), some (.ref s), some (.int n), some (.str u), some (.str v), some dv, v8, v9, v10, v11] H') :
    Wss X (tbi 5 :: tbi 6 :: tbi 7 :: tbi 8 :: rest) ⟨nx, rt, bk, ct⟩ [some (.ref a), some (.ref ep), some (.int i), some (.ref s), some (.int n), some (.str u), some (.str v), some .non, v8, v9, v10, v11] H := by
  have fin : ∀ dv D H, Due (badN n u v) dv D → Kn R (D ++ [(s, IsSrc 3), (ep, Is (.lst (endsS.map V.str)))]) [] H → Wss X (tbi 8 :: rest) ⟨nx, rt, bk, ct⟩ [some (.ref a), some (.ref ep), some (.int i), some (.ref s), some (.int n), some (.str u), some (.str v), some dv, v8, v9, v10, v11] H := by
    intro dv D H ⟨d1, d2⟩ kn
    change Wss X (_ :: rest) _ [_, _, _, _, _, _, _, _, _, _, _, _] _
    refine s_if ?_
    walk_at "w"
    refine ⟨n, u, v, _, _, _, rfl, kn, fun hb H kn => ?_, fun z hz p H kn => ?_⟩
    · rw [d1 hb]
      walk_at "w"
      refine o_neN ?_
      walk_at "w"
      exact h _ _ kn.dropL
    · obtain ⟨q, rfl, hq⟩ := d2 z hz
      walk_at "w"
      have hs : SeqAt.shaped (.list [.str "frame", .str z]) = true := by rcases badN_mem hz with rfl | rfl | rfl <;> decide +kernel
      refine o_neD cx (d_lst kn .h (.cons (.str _) (.cons (.str _) .nil))) (d_lst kn (.t hq.left) (.cons (.str _) (.cons (.str _) .nil))) hs hs rfl rfl fun c hc => ?_
      have e : c = true := hc.mpr rfl
      subst e
      walk_at "w"
      exact h _ _ kn.drop1.dropL
  generalize tbi 8 :: rest = rest' at fin
  change Wss X (_ :: _ :: _ :: rest') _ [_, _, _, _, _, _, _, _, _, _, _, _] _
  have sl : ∀ {H : Hp} {D : List (Addr × (HO → Prop))} {Q : Addr → Hp → Prop}, Kn R (D ++ [(s, IsSrc 3), (ep, Is (.lst (endsS.map V.str)))]) [] H → (∀ q H, Kn R ((q, Is (.lst [.str "fixed", .str "free"])) :: (D ++ [(s, IsSrc 3), (ep, Is (.lst (endsS.map V.str)))])) [] H → Q q H) → 
      ∃ i, V.int 2 = V.int i ∧ ∃ (b : Addr) (xs : List V) (R' : Hp → Prop) (M : List (Addr × (HO → Prop))) (L : List (Addr × Obj)), V.ref ep = .ref b ∧ Kn R' M L H ∧ SqL K H b xs ∧ ∀ q H', Kn R' ((q, Is (.lst (cutV xs none (some i)))) :: M) L H' → Q q H' :=
    fun {H D Q} kn k => ⟨2, rfl, ep, _, _, _, _, rfl, kn, .inl (.inl (kn.is (Has.right (.t .h)))), k⟩
  refine s_if ?_
  walk_at "w"
  refine sl (D := []) kn fun q H kn => ?_
  refine o_ninEndsL cx kn .h ?_
  refine ⟨_, rfl, ?_⟩
  by_cases hv : isEnd v
  · rw [decide_eq_true hv]
    refine i_b (fun h => absurd h (by decide)) (fun _ => ?_)
    walk_at "w"
    refine s_if ?_
    walk_at "w"
    refine sl (D := [_]) kn fun q H kn => ?_
    refine o_ninEndsL cx kn .h ?_
    refine ⟨_, rfl, ?_⟩
    by_cases hu : isEnd u
    · rw [decide_eq_true hu]
      refine i_b (fun h => absurd h (by decide)) (fun _ => ?_)
      walk_at "w"
      refine s_if ?_
      by_cases hn : 1 ≤ n ∧ n ≤ 1000000000000000000
      · obtain ⟨n0, n1⟩ := id hn
        walk_at "w"
        have hb : badN n u v = none := by unfold badN; rw [if_neg (not_not_intro hn), if_neg (not_not_intro hu), if_neg (not_not_intro hv)]
        exact fin _ [_, _] _ ⟨fun _ => rfl, fun z e => by rw [hb] at e; cases e⟩ kn
      · by_cases n0 : 1 ≤ n
        · have n1 : ¬ n ≤ 1000000000000000000 := fun z => hn ⟨n0, z⟩
          walk_at "w"
          have hb : badN n u v = some ("pieces" : Str) := by unfold badN; rw [if_pos hn]
          exact fin _ [_, _, _] _ ⟨fun e => (by rw [hb] at e; cases e), fun z e => (by rw [hb] at e; cases e; exact ⟨_, rfl, .h⟩)⟩ kn
        · walk_at "w"
          have hb : badN n u v = some ("pieces" : Str) := by unfold badN; rw [if_pos hn]
          exact fin _ [_, _, _] _ ⟨fun e => (by rw [hb] at e; cases e), fun z e => (by rw [hb] at e; cases e; exact ⟨_, rfl, .h⟩)⟩ kn
    · rw [decide_eq_false hu]
      refine i_b (fun _ => ?_) (fun h => absurd h (by decide))
      walk_at "w"
      refine s_if ?_
      by_cases hn : 1 ≤ n ∧ n ≤ 1000000000000000000
      · obtain ⟨n0, n1⟩ := id hn
        walk_at "w"
        have hb : badN n u v = some ("front" : Str) := by unfold badN; rw [if_neg (not_not_intro hn), if_pos hu]
        exact fin _ [_, _, _] _ ⟨fun e => (by rw [hb] at e; cases e), fun z e => (by rw [hb] at e; cases e; exact ⟨_, rfl, .h⟩)⟩ kn
      · by_cases n0 : 1 ≤ n
        · have n1 : ¬ n ≤ 1000000000000000000 := fun z => hn ⟨n0, z⟩
          walk_at "w"
          have hb : badN n u v = some ("pieces" : Str) := by unfold badN; rw [if_pos hn]
          exact fin _ [_, _, _, _] _ ⟨fun e => (by rw [hb] at e; cases e), fun z e => (by rw [hb] at e; cases e; exact ⟨_, rfl, .h⟩)⟩ kn
        · walk_at "w"
          have hb : badN n u v = some ("pieces" : Str) := by unfold badN; rw [if_pos hn]
          exact fin _ [_, _, _, _] _ ⟨fun e => (by rw [hb] at e; cases e), fun z e => (by rw [hb] at e; cases e; exact ⟨_, rfl, .h⟩)⟩ kn
  · rw [decide_eq_false hv]
    refine i_b (fun _ => ?_) (fun h => absurd h (by decide))
    walk_at "w"
    refine s_if ?_
    walk_at "w"
    refine sl (D := [_, _]) kn fun q H kn => ?_
    refine o_ninEndsL cx kn .h ?_
    refine ⟨_, rfl, ?_⟩
    by_cases hu : isEnd u
    · rw [decide_eq_true hu]
      refine i_b (fun h => absurd h (by decide)) (fun _ => ?_)
      walk_at "w"
      refine s_if ?_
      by_cases hn : 1 ≤ n ∧ n ≤ 1000000000000000000
      · obtain ⟨n0, n1⟩ := id hn
        walk_at "w"
        have hb : badN n u v = some ("back" : Str) := by unfold badN; rw [if_neg (not_not_intro hn), if_neg (not_not_intro hu), if_pos hv]
        exact fin _ [_, _, _] _ ⟨fun e => (by rw [hb] at e; cases e), fun z e => (by rw [hb] at e; cases e; exact ⟨_, rfl, .t .h⟩)⟩ kn
      · by_cases n0 : 1 ≤ n
        · have n1 : ¬ n ≤ 1000000000000000000 := fun z => hn ⟨n0, z⟩
          walk_at "w"
          have hb : badN n u v = some ("pieces" : Str) := by unfold badN; rw [if_pos hn]
          exact fin _ [_, _, _, _] _ ⟨fun e => (by rw [hb] at e; cases e), fun z e => (by rw [hb] at e; cases e; exact ⟨_, rfl, .h⟩)⟩ kn
        · walk_at "w"
          have hb : badN n u v = some ("pieces" : Str) := by unfold badN; rw [if_pos hn]
          exact fin _ [_, _, _, _] _ ⟨fun e => (by rw [hb] at e; cases e), fun z e => (by rw [hb] at e; cases e; exact ⟨_, rfl, .h⟩)⟩ kn
    · rw [decide_eq_false hu]
      refine i_b (fun _ => ?_) (fun h => absurd h (by decide))
      walk_at "w"
      refine s_if ?_
      by_cases hn : 1 ≤ n ∧ n ≤ 1000000000000000000
      · obtain ⟨n0, n1⟩ := id hn
        walk_at "w"
        have hb : badN n u v = some ("front" : Str) := by unfold badN; rw [if_neg (not_not_intro hn), if_pos hu]
        exact fin _ [_, _, _, _] _ ⟨fun e => (by rw [hb] at e; cases e), fun z e => (by rw [hb] at e; cases e; exact ⟨_, rfl, .h⟩)⟩ kn
      · by_cases n0 : 1 ≤ n
        · have n1 : ¬ n ≤ 1000000000000000000 := fun z => hn ⟨n0, z⟩
          walk_at "w"
          have hb : badN n u v = some ("pieces" : Str) := by unfold badN; rw [if_pos hn]
          exact fin _ [_, _, _, _, _] _ ⟨fun e => (by rw [hb] at e; cases e), fun z e => (by rw [hb] at e; cases e; exact ⟨_, rfl, .h⟩)⟩ kn
        · walk_at "w"
          have hb : badN n u v = some ("pieces" : Str) := by unfold badN; rw [if_pos hn]
          exact fin _ [_, _, _, _, _] _ ⟨fun e => (by rw [hb] at e; cases e), fun z e => (by rw [hb] at e; cases e; exact ⟨_, rfl, .h⟩)⟩ kn
end

end
end U

namespace U
section
open PySem PySem.Spec L2
open PySem.W (findIn isFn mroIn Looks InstAt)
open PyProof.Rows hiding St
set_option hygiene false
local macro_rules | `(tactic| walk_at "w") => `(tactic| repeat (first
  | (with_reducible refine ck_e ?_; first
    | (with_reducible refine ck_call ?_; with_reducible refine w_call cx (by (repeat (first | with_reducible exact In.h | apply In.t)); (first | done | fail)) D0 (by kernel_rfl) ?_)
    | (with_reducible refine ck_call ?_; with_reducible refine w_call cx (by (repeat (first | with_reducible exact In.h | apply In.t)); (first | done | fail)) D1 (by kernel_rfl) ?_)
    | (with_reducible refine ck_call ?_; with_reducible refine w_call cx (by (repeat (first | with_reducible exact In.h | apply In.t)); (first | done | fail)) D2 (by kernel_rfl) ?_)
    | (with_reducible refine ck_call ?_; with_reducible refine w_call cx (by (repeat (first | with_reducible exact In.h | apply In.t)); (first | done | fail)) D3 (by kernel_rfl) ?_)
    | (with_reducible refine ck_call ?_; with_reducible refine w_call cx (by (repeat (first | with_reducible exact In.h | apply In.t)); (first | done | fail)) D4 (by kernel_rfl) ?_)
    | (with_reducible refine ck_call ?_; with_reducible refine w_call cx (by (repeat (first | with_reducible exact In.h | apply In.t)); (first | done | fail)) D5 (by kernel_rfl) ?_)
    | (with_reducible refine ck_call ?_; with_reducible refine w_call cx (by (repeat (first | with_reducible exact In.h | apply In.t)); (first | done | fail)) D6 (by kernel_rfl) ?_)
    | (with_reducible refine ck_call ?_; with_reducible refine w_call cx (by (repeat (first | with_reducible exact In.h | apply In.t)); (first | done | fail)) D7 (by kernel_rfl) ?_)
    | (with_reducible refine ck_call ?_; with_reducible refine w_call cx (by (repeat (first | with_reducible exact In.h | apply In.t)); (first | done | fail)) D8 (by kernel_rfl) ?_)
    | (with_reducible refine ck_call ?_; with_reducible refine w_call cx (by (repeat (first | with_reducible exact In.h | apply In.t)); (first | done | fail)) D9 (by kernel_rfl) ?_)
    | (with_reducible refine ck_nm ?_; with_reducible refine w_var cx (by (repeat (first | with_reducible exact SlotIs.h | apply SlotIs.t)); (first | done | fail)) ?_)
    | with_reducible refine w_int ?_
    | with_reducible refine w_bin ?_
    | (with_reducible refine ck_ix ?_; with_reducible refine w_ix ?_)
    | (with_reducible refine ck_cmp ?_; with_reducible refine w_cmp ?_)
    | with_reducible refine w_str ?_
    | with_reducible refine w_tupK ?_
    | with_reducible refine w_lstK ?_
    | (with_reducible refine ck_call ?_; with_reducible refine w_len cx (by (repeat (first | with_reducible exact In.h | apply In.t)); (first | done | fail)) ?_)
    | (with_reducible refine ck_call ?_; with_reducible refine w_max cx (by (repeat (first | with_reducible exact In.h | apply In.t)); (first | done | fail)) ?_)
    | (with_reducible refine ck_call ?_; with_reducible refine w_min cx (by (repeat (first | with_reducible exact In.h | apply In.t)); (first | done | fail)) ?_)
    | (with_reducible refine ck_call ?_; with_reducible refine w_abs cx (by (repeat (first | with_reducible exact In.h | apply In.t)); (first | done | fail)) ?_)
    | (with_reducible refine ck_call ?_; with_reducible refine w_repr cx (by (repeat (first | with_reducible exact In.h | apply In.t)); (first | done | fail)) ?_)
    | (with_reducible refine ck_call ?_; with_reducible refine w_isinstance cx (by (repeat (first | with_reducible exact In.h | apply In.t)); (first | done | fail)) ?_)
    | (with_reducible refine ck_call ?_; with_reducible refine w_sorted cx (by (repeat (first | with_reducible exact In.h | apply In.t)); (first | done | fail)) ?_)
    | (with_reducible refine ck_call ?_; with_reducible refine w_all cx (by (repeat (first | with_reducible exact In.h | apply In.t)); (first | done | fail)) ?_)
    | (with_reducible refine ck_call ?_; with_reducible refine w_any cx (by (repeat (first | with_reducible exact In.h | apply In.t)); (first | done | fail)) ?_)
    | (with_reducible refine ck_call ?_; with_reducible refine w_sum cx (by (repeat (first | with_reducible exact In.h | apply In.t)); (first | done | fail)) ?_)
    | (with_reducible refine ck_call ?_; with_reducible refine w_intT cx (by (repeat (first | with_reducible exact In.h | apply In.t)); (first | done | fail)) ?_)
    | (with_reducible refine ck_call ?_; with_reducible refine w_strT cx (by (repeat (first | with_reducible exact In.h | apply In.t)); (first | done | fail)) ?_)
    | (with_reducible refine ck_call ?_; with_reducible refine w_tupleT cx (by (repeat (first | with_reducible exact In.h | apply In.t)); (first | done | fail)) ?_)
    | (with_reducible refine ck_call ?_; with_reducible refine w_listT cx (by (repeat (first | with_reducible exact In.h | apply In.t)); (first | done | fail)) ?_)
    | (with_reducible refine ck_call ?_; with_reducible refine w_dictT cx (by (repeat (first | with_reducible exact In.h | apply In.t)); (first | done | fail)) ?_)
    | (with_reducible refine ck_call ?_; with_reducible refine w_boolT cx (by (repeat (first | with_reducible exact In.h | apply In.t)); (first | done | fail)) ?_)
    | (with_reducible refine ck_atr ?_; with_reducible refine w_attr ?_)
    | with_reducible refine w_un ?_
    | (with_reducible refine ck_cmp ?_; with_reducible refine w_chain ?_)
    | with_reducible refine w_and ?_
    | with_reducible refine w_or ?_
    | with_reducible refine w_bool1 ?_
    | with_reducible refine w_not ?_
    | with_reducible refine w_if ?_
    | with_reducible refine w_bl ?_
    | with_reducible refine w_non ?_
    | with_reducible refine w_joined ?_
    | with_reducible refine w_joined1 ?_
    | with_reducible refine w_fmt ?_)
  | (with_reducible refine ck_a ?_; first
    | with_reducible refine wa_star cx ?_
    | with_reducible refine wa_cons ?_
    | with_reducible refine wa_nil ?_)
  | (with_reducible refine ck_s ?_; first
    | with_reducible refine s_aug cx (by (repeat (first | with_reducible exact SlotIs.h | apply SlotIs.t)); (first | done | fail)) rfl ?_
    | (with_reducible refine ck_asgn ?_; with_reducible refine s_set cx ?_)
    | with_reducible refine s_if ?_
    | with_reducible refine s_ret ?_
    | with_reducible refine s_nil ?_
    | (with_reducible refine ck_xpr ?_; with_reducible refine s_expr ?_)
    | (with_reducible refine ck_asgn ?_; with_reducible refine s_asg ?_)
    | with_reducible refine s_pass ?_
    | with_reducible refine s_break ?_
    | with_reducible refine s_cont ?_
    | with_reducible refine s_retN ?_)
  | (with_reducible refine ck_o ?_; first
    | with_reducible refine o_eqI ?_
    | with_reducible refine o_addSn (by repeat (first | with_reducible exact l_emp | with_reducible exact l_en | with_reducible exact l_sp | with_reducible exact l_dir | with_reducible assumption | with_reducible exact l_frt (by first | with_reducible assumption | exact log_ok (by omega)) | with_reducible exact l_int (by first | with_reducible assumption | exact log_ok (by omega)) | with_reducible apply l_app | with_reducible exact Nat.le_refl _)) (by repeat (first | with_reducible exact l_emp | with_reducible exact l_en | with_reducible exact l_sp | with_reducible exact l_dir | with_reducible assumption | with_reducible exact l_frt (by first | with_reducible assumption | exact log_ok (by omega)) | with_reducible exact l_int (by first | with_reducible assumption | exact log_ok (by omega)) | with_reducible apply l_app | with_reducible exact Nat.le_refl _)) (by kernel_rfl) ?_
    | with_reducible refine o_add ?_
    | with_reducible refine o_sub ?_
    | with_reducible refine o_lt ?_
    | with_reducible refine o_le ?_
    | with_reducible refine o_gt ?_
    | with_reducible refine o_ge ?_
    | with_reducible refine o_eqI ?_
    | with_reducible refine o_neI ?_
    | with_reducible refine o_eqS ?_
    | with_reducible refine o_neS ?_
    | with_reducible refine o_neB ?_
    | with_reducible refine o_eqB ?_
    | with_reducible refine o_isN ?_
    | with_reducible refine o_notN ?_
    | with_reducible refine o_mod (by omega) ?_
    | with_reducible refine o_mulL (by omega) ?_
    | with_reducible refine o_mulR (by omega) ?_
    | with_reducible refine o_fdiv (by omega) ?_
    | with_reducible refine o_pow (by simp only [Int.reduceToNat, Int.reducePow]; first | done | rfl) (by omega) (by decide +kernel) ?_
    | with_reducible refine o_neL0 cx (by with_reducible assumption) (by (repeat (first | with_reducible assumption | with_reducible exact Has.h | apply Has.t)); (first | done | fail)) (by (repeat (first | with_reducible assumption | with_reducible exact Has.h | apply Has.t)); (first | done | fail)) ?_
    | with_reducible refine o_fdivB (by omega) ?_)
  | (with_reducible refine ck_c ?_; first
    | with_reducible refine c_strI (by first | with_reducible assumption | exact log_ok (by omega)) ?_
    | with_reducible refine c_reprI (by first | with_reducible assumption | exact log_ok (by omega)) ?_
    | with_reducible refine c_lenS (Nat.le_trans (by repeat (first | with_reducible exact l_emp | with_reducible exact l_en | with_reducible exact l_sp | with_reducible exact l_dir | with_reducible assumption | with_reducible exact l_frt (by first | with_reducible assumption | exact log_ok (by omega)) | with_reducible exact l_int (by first | with_reducible assumption | exact log_ok (by omega)) | with_reducible apply l_app | with_reducible exact Nat.le_refl _)) (Nat.le_of_ble_eq_true (by kernel_rfl))) ?_
    | with_reducible refine c_max cx ?_
    | with_reducible refine c_min cx ?_
    | with_reducible refine c_abs ?_
    | with_reducible refine c_intI ?_
    | with_reducible refine c_intB ?_
    | with_reducible refine c_strS ?_
    | with_reducible refine c_lenT (by with_reducible assumption) (by (repeat (first | with_reducible assumption | with_reducible exact Ent.h | apply Ent.t)); (first | done | fail)) ?_
    | with_reducible refine c_lenL (by with_reducible assumption) (by (repeat (first | with_reducible assumption | with_reducible exact Has.h | apply Has.t)); (first | done | fail)) ?_
    | with_reducible refine c_lenX (by with_reducible assumption) (by (repeat (first | with_reducible assumption | with_reducible exact Ent.h | apply Ent.t)); (first | done | fail)) ?_
    | with_reducible refine c_lenQ cx (by with_reducible assumption) (by (repeat (first | with_reducible assumption | with_reducible exact Ent.h | apply Ent.t)); (first | done | fail)) ?_)
  | (with_reducible refine ck_x ?_; first
    | with_reducible refine x_tup (by with_reducible assumption) (by (repeat (first | with_reducible assumption | with_reducible exact Ent.h | apply Ent.t)); (first | done | fail)) (by first | with_reducible exact at0 | with_reducible exact at1 | with_reducible exact at2) ?_
    | with_reducible refine x_lst (by with_reducible assumption) (by (repeat (first | with_reducible assumption | with_reducible exact Has.h | apply Has.t)); (first | done | fail)) (by first | with_reducible exact at0 | with_reducible exact at1 | with_reducible exact at2) ?_
    | with_reducible refine x_lstX (by with_reducible assumption) (by (repeat (first | with_reducible assumption | with_reducible exact Ent.h | apply Ent.t)); (first | done | fail)) (by first | with_reducible exact at0 | with_reducible exact at1 | with_reducible exact at2) ?_)
  | (with_reducible refine ck_t ?_; first
    | (with_reducible refine ck_tc ?_; with_reducible refine t_cmp ?_)
    | (with_reducible refine ck_tc ?_; with_reducible refine t_chain ?_)
    | with_reducible refine t_not ?_
    | with_reducible refine t_and ?_
    | with_reducible refine t_or ?_
    | with_reducible refine t_val ?_)
  | (with_reducible refine ck_w ?_; first
    | with_reducible refine ww_and ?_
    | with_reducible refine ww_or ?_
    | with_reducible refine ww_and1 ?_
    | with_reducible refine ww_or1 ?_)
  | (with_reducible refine ck_p ?_; first
    | with_reducible refine p_l0 (by with_reducible assumption) (by (repeat (first | with_reducible assumption | with_reducible exact Put.h | apply Put.t)); (first | done | fail)) ?_
    | with_reducible refine p_l1 (by with_reducible assumption) (by (repeat (first | with_reducible assumption | with_reducible exact Put.h | apply Put.t)); (first | done | fail)) ?_
    | with_reducible refine p_l2 (by with_reducible assumption) (by (repeat (first | with_reducible assumption | with_reducible exact Put.h | apply Put.t)); (first | done | fail)) ?_)
  | (with_reducible refine ck_f ?_; first
    | with_reducible refine f_str (Nat.le_trans (by repeat (first | with_reducible exact l_emp | with_reducible exact l_en | with_reducible exact l_sp | with_reducible exact l_dir | with_reducible assumption | with_reducible exact l_frt (by first | with_reducible assumption | exact log_ok (by omega)) | with_reducible exact l_int (by first | with_reducible assumption | exact log_ok (by omega)) | with_reducible apply l_app | with_reducible exact Nat.le_refl _)) (Nat.le_of_ble_eq_true (by kernel_rfl))) ?_
    | with_reducible refine f_int (by first | with_reducible assumption | exact log_ok (by omega)) ?_)
  | (with_reducible refine ck_j ?_; first
    | with_reducible refine wj_nil ?_
    | with_reducible refine wj_cons ?_)
  | (with_reducible refine ck_g ?_; first
    | (with_reducible refine ck_gn ?_; with_reducible refine g_name cx (by (repeat (first | with_reducible exact SetAt.h | apply SetAt.t)); (first | done | fail)) ?_)
    | (with_reducible refine ck_gx ?_; with_reducible refine g_sub ?_))
  | (with_reducible refine ck_i ?_; first
    | with_reducible refine i_not ?_
    | with_reducible refine i_t (by with_reducible rfl) ?_
    | with_reducible refine i_t ⟨rfl, rfl, rfl⟩ ?_
    | with_reducible refine i_t (by with_reducible assumption) ?_
    | with_reducible refine i_f (by with_reducible assumption) ?_
    | with_reducible refine i_t (by omega) ?_
    | with_reducible refine i_f (by omega) ?_
    | with_reducible refine i_t (by simp only [List.length_cons, List.length_nil]; omega) ?_
    | with_reducible refine i_f (by simp only [List.length_cons, List.length_nil]; omega) ?_)
  | (with_reducible refine ck_i ?_; first
    | with_reducible refine iteT ?_)
  | (with_reducible refine ck_i ?_; first
    | with_reducible refine iteF ?_)
  | (with_reducible refine ck_st ?_; first
    | with_reducible refine k_set (by (repeat (first | with_reducible exact SetAt.h | apply SetAt.t)); (first | done | fail)) ?_)
  | with_reducible refine wpo_none ?_
  | with_reducible refine wpo_some ?_
  | with_reducible refine k_sj (by repeat (first | with_reducible exact l_emp | with_reducible exact l_en | with_reducible exact l_sp | with_reducible exact l_dir | with_reducible assumption | with_reducible exact l_frt (by first | with_reducible assumption | exact log_ok (by omega)) | with_reducible exact l_int (by first | with_reducible assumption | exact log_ok (by omega)) | with_reducible apply l_app | with_reducible exact Nat.le_refl _)) (by kernel_rfl) ?_
  | with_reducible refine k_bl ?_
  | with_reducible refine o_neg ?_
  | with_reducible refine k_sfld (by with_reducible assumption) (by (repeat (first | with_reducible assumption | with_reducible exact Put.h | apply Put.t)); (first | done | fail)) (by repeat (first | with_reducible exact FL.z | apply FL.s)) (by with_unfolding_all rfl) ?_
  | with_reducible refine gs_nil ?_
  | with_reducible refine gs_cons ?_
  | (with_reducible refine ⟨_, _, _, (by with_reducible assumption), (by with_unfolding_all exact Nat.le_of_ble_eq_true rfl), ?_⟩; intro p H kn)
  | (with_reducible intro H kn)))
/-! k03: the texts of a turn -/
theorem rep_len (x : Array Nat) : ∀ (n : Nat) (acc : Array Nat), ((List.replicate n x).foldl (· ++ ·) acc).size = acc.size + n * x.size
  | 0, acc => by simp
  | n + 1, acc => by
    rw [List.replicate_succ, List.foldl_cons, rep_len x n, Array.size_append, Nat.succ_mul]
    omega
def Sh (b : Nat) (ts : List Str) : Prop := ∀ t ∈ ts, t.length ≤ b
theorem sh_nil {b : Nat} : Sh b [] := fun _ h => by cases h
theorem sh_cons {b : Nat} {t : Str} {ts : List Str} {m : Nat} (h1 : t.length ≤ m) (h2 : Nat.ble m b = true) (h3 : Sh b ts) : Sh b (t :: ts) := fun x hx => by
  rcases List.mem_cons.mp hx with rfl | hx
  · exact Nat.le_trans h1 (Nat.le_of_ble_eq_true h2)
  · exact h3 x hx
theorem sh_app {b : Nat} {ts us : List Str} (h1 : Sh b ts) (h2 : Sh b us) : Sh b (ts ++ us) := fun x hx => (List.mem_append.mp hx).elim (h1 x) (h2 x)
theorem sh_part {b : Nat} {ts : List Str} (h : Sh b ts) (j : Nat) : (part ts j).length ≤ b := by
  unfold part
  by_cases hj : j < ts.length
  · have hm : ts.getD j "" ∈ ts := by
      rw [List.getD_eq_getElem?_getD, List.getElem?_eq_getElem hj]
      exact List.getElem_mem hj
    exact h _ hm
  · rw [List.getD_eq_getElem?_getD, List.getElem?_eq_none (by omega)]
    exact Nat.zero_le _
/-- text * int -/
theorem o_repS {X : Cx} {z : Str} {n : Int} {m : Nat} {H : Hp} {Q : VK} (hn : 2 ≤ n) (hn' : n ≤ 1000) (hz : 1 ≤ z.length) (hz' : z.length ≤ 1000) (hm : n.toNat * z.length ≤ m) (h : ∀ t : Str, t.length ≤ m → Q (.str t) H) : Wop X (binaryOp .Mult) (.str z) (.int n) H Q := by
  have op : OpR X (binaryOp .Mult) (fun x y H Q => x = .str z ∧ y = .int n ∧ ∀ t : Str, t.length ≤ m → Q (.str t) H) := by
    intro pins s σ H x y v u Q I rx ry h
    obtain ⟨rfl, rfl, q⟩ := h
    obtain ⟨t, rfl⟩ := rx
    obtain ⟨t', rfl⟩ := ry
    have h1 : ¬ n < 1 := by omega
    have h2 : (n == 1 || z.length == 0) = false := by
      rw [Bool.or_eq_false_iff]
      exact ⟨beq_eq_false_iff_ne.mpr (by omega), beq_eq_false_iff_ne.mpr (by omega)⟩
    have sz : (⟨(List.replicate n.toNat z.cps).foldl (· ++ ·) #[]⟩ : Str).length = n.toNat * z.length := by
      show ((List.replicate n.toNat z.cps).foldl (· ++ ·) #[]).size = _
      rw [rep_len]
      simp [Str.length]
    refine PySem.P.mul_str ?_ (fun _ _ => ?_) (fun _ _ => ?_) ?_
    · rw [decide_eq_false (by omega), decide_eq_false (by omega)]
      rfl
    · have e : (z.length : Int) * n ≤ 9223372036854775807 := Int.le_trans (Int.mul_le_mul (show (z.length : Int) ≤ 1000 by omega) hn' (by omega) (by omega)) (by decide)
      have := Int.le_ediv_of_mul_le (show 0 < n by omega) e
      show ¬ ((z.length : Int) > 9223372036854775807 / n)
      omega
    · have e : z.length * n.toNat ≤ 1000 * 1000 := Nat.mul_le_mul hz' (by omega)
      show decide (z.length * n.toNat > sizeLine) = false
      rw [PySem.sizeLine_eq]
      exact decide_eq_false (by omega)
    · rw [if_neg h1, if_neg (by rw [h2]; exact Bool.false_ne_true)]
      have e : n.toNat * z.length ≤ 1000 * 1000 := Nat.mul_le_mul (by omega) hz'
      exact ⟨by rw [sz, PySem.sizeLine_eq]; omega, .str _, H, I.tok _, ⟨_, rfl⟩, q _ (by rw [sz]; exact hm)⟩
  exact ofOp op ⟨rfl, rfl, h⟩
theorem badP_num {ls : List Str} (h : badP ls = none) : 0 ≤ numV (part ls 1) ∧ numV (part ls 1) ≤ 1000000000000000000 := by
  unfold badP at h
  by_cases h0 : isEnd (part ls 0)
  · by_cases h1 : okN ls
    · exact ⟨Int.natCast_nonneg _, h1.2.2⟩
    · rw [if_neg (not_not_intro h0), if_pos h1] at h
      cases h
  · rw [if_pos h0] at h
    cases h
theorem badP_four {ls : List Str} {i : Int} (h : badP ls = some i) : i = 0 ∨ i = 1 ∨ i = 2 ∨ i = 3 := by
  unfold badP at h
  (repeat' split at h) <;> first | (cases h; done) | (cases h; simp)
section
variable {P : Program} {w : World} {K : PySem.W.Frag} {mg : Str → Option Value} {base : Heap}
variable {X : Cx} {E : WX} {nx : St → Hp → Prop} {rt : VK} {bk ct : St → Hp → Prop} {H : Hp} {R : Hp → Prop} {a ep s : Addr} {i : Int} {v4 v5 v6 v7 v8 v9 v10 v11 : Option V} {rest : List Stmt} {N : List (Addr × (HO → Prop))}
theorem seg_C (cx : CxI P w K mg base 7 v_law v_law g_law E X) (D1 : Df P w K mg base "_law_draw" 1 ["_law_source_here", "_law_bound"] spDraw) (kn : Kn R ((s, IsSrc 3) :: N) [] H)
    (h : ∀ v8 (t : Str) H', t.length ≤ 9000 → Kn R ((s, IsSrc 5) :: N) [] H' → Wss X rest ⟨nx, rt, bk, ct⟩ [some (.ref a), some (.ref ep), some (.int i), some (.ref s), v4, v5, v6, v7, v8, some (.str t), v10, v11] H') :
    Wss X (tbi 9 :: tbi 10 :: tbi 11 :: rest) ⟨nx, rt, bk, ct⟩ [some (.ref a), some (.ref ep), some (.int i), some (.ref s), v4, v5, v6, v7, v8, v9, v10, v11] H := by
  change Wss X (_ :: _ :: _ :: rest) _ [_, _, _, _, _, _, _, _, _, _, _, _] _
  refine s_set cx ?_
  walk_at "w"
  refine k_draw (by walk_at "put") kn (by omega) (by omega) (by omega) (by omega) fun v H v0 v1 kn => ?_
  walk_at "w"
  obtain ⟨s0, hs0, sh0, kn⟩ : ∃ ts : List Str, ts.length = 10 ∧ Sh 9000 ts ∧ Kn R ((p, Is (.lst (ts.map V.str))) :: (s, IsSrc 4) :: N) [] H := by
    have k2 := kn.imp (.t .h) (IsSrc.mono (d := 4) (by omega))
    refine ⟨[_, _, _, _, _, _, _, _, _, _], rfl, ?_, k2⟩
    refine sh_cons (m := 1921) (l_int (log_ok (by omega))) (by kernel_rfl) ?_
    iterate 8 refine sh_cons (Nat.le_refl _) (by kernel_rfl) ?_
    exact sh_cons (m := 1921) (l_int (log_ok (by omega))) (by kernel_rfl) sh_nil
  refine s_set cx ?_
  walk_at "w"
  refine o_repS (m := 25) (by omega) (by omega) (by decide +kernel) (by decide +kernel) (by decide +kernel) fun t9 ht9 => ?_
  walk_at "w"
  obtain ⟨s1, hs1, sh1, kn⟩ : ∃ ts : List Str, ts.length = 4 ∧ Sh 9000 ts ∧ Kn R ((p, Is (.lst (ts.map V.str))) :: (_, Is (.lst (s0.map V.str))) :: (s, IsSrc 4) :: N) [] H := by
    refine ⟨[_, _, _, _], rfl, ?_, kn⟩
    refine sh_cons (m := 1921) (l_int (log_ok (by omega))) (by kernel_rfl) ?_
    refine sh_cons ht9 (by kernel_rfl) ?_
    iterate 2 refine sh_cons (Nat.le_refl _) (by kernel_rfl) ?_
    exact sh_nil
  refine o_cat kn (.t .h) .h (by simp [hs0, hs1]) fun lp H kn => ?_
  rw [← List.map_append] at kn
  have sh2 := sh_app sh0 sh1
  have hs2 : (s0 ++ s1).length = 14 := by rw [List.length_append]; omega
  revert sh2 hs2 kn
  generalize s0 ++ s1 = s2
  intro kn sh2 hs2
  replace kn := (kn.take (.t .h)).take (.t .h)
  walk_at "w"
  refine s_set cx ?_
  walk_at "w"
  refine k_draw (by walk_at "put") kn (by omega) (by omega) (by omega) (by omega) fun v H v0 v1 kn => ?_
  obtain ⟨j, rfl⟩ : ∃ j : Nat, v = j := ⟨v.toNat, by omega⟩
  refine x_lst kn (by walk_at "has") (at_part (j := j) (by omega)) ?_
  walk_at "w"
  exact h _ _ _ (sh_part sh2 j) (kn.drop1.imp .h (IsSrc.mono (by omega)))
theorem seg_D (cx : CxI P w K mg base 7 v_law v_law g_law E X) {t u v : Str} (ht : t.length ≤ 9000) (hu : u.length ≤ 6) (hv : v.length ≤ 6) (kn : Kn R N [] H)
    (h : ∀ (lp : Addr) (ts : List Str) H', (∀ t ∈ ts, t.length ≤ 90000) → ts.length ≤ 100 → Kn R ((lp, Is (.lst (ts.map V.str))) :: N) [] H' → Wss X rest ⟨nx, rt, bk, ct⟩ [some (.ref a), some (.ref ep), some (.int i), some (.ref s), v4, some (.str u), some (.str v), v7, v8, some (.str t), some (.ref lp), v11] H') :
    Wss X (tbi 12 :: tbi 13 :: tbi 14 :: tbi 15 :: tbi 16 :: rest) ⟨nx, rt, bk, ct⟩ [some (.ref a), some (.ref ep), some (.int i), some (.ref s), v4, some (.str u), some (.str v), v7, v8, some (.str t), v10, v11] H := by
  change Wss X (_ :: _ :: _ :: _ :: _ :: rest) _ [_, _, _, _, _, _, _, _, _, _, _, _] _
  refine s_set cx ?_
  walk_at "w"
  obtain ⟨s0, hs0, sh0, kn⟩ : ∃ ts : List Str, ts.length = 5 ∧ Sh 90000 ts ∧ Kn R ((p, Is (.lst (ts.map V.str))) :: N) [] H := by
    refine ⟨[_, _, _, _, _], rfl, ?_, kn⟩
    refine sh_cons (l_app (l_app (Nat.le_refl _) ht) (Nat.le_refl _)) (by kernel_rfl) ?_
    refine sh_cons (l_app (l_app (l_app (l_app hu (Nat.le_refl _)) ht) (Nat.le_refl _)) hv) (by kernel_rfl) ?_
    refine sh_cons (l_app (Nat.le_refl _) ht) (by kernel_rfl) ?_
    refine sh_cons (Nat.le_refl _) (by kernel_rfl) ?_
    refine sh_cons (Nat.le_refl _) (by kernel_rfl) ?_
    exact sh_nil
  refine s_set cx ?_
  walk_at "w"
  obtain ⟨s1, hs1, sh1, kn⟩ : ∃ ts : List Str, ts.length = 5 ∧ Sh 90000 ts ∧ Kn R ((p, Is (.lst (ts.map V.str))) :: (_, Is (.lst (s0.map V.str))) :: N) [] H := by
    refine ⟨[_, _, _, _, _], rfl, ?_, kn⟩
    refine sh_cons (Nat.le_refl _) (by kernel_rfl) ?_
    refine sh_cons (Nat.le_refl _) (by kernel_rfl) ?_
    refine sh_cons (Nat.le_refl _) (by kernel_rfl) ?_
    refine sh_cons (Nat.le_refl _) (by kernel_rfl) ?_
    refine sh_cons (Nat.le_refl _) (by kernel_rfl) ?_
    exact sh_nil
  refine o_cat kn (.t .h) .h (by simp [hs0, hs1]) fun lp H kn => ?_
  rw [← List.map_append] at kn
  replace sh0 := sh_app sh0 sh1
  replace hs0 : (s0 ++ s1).length = 10 := by rw [List.length_append]; omega
  clear sh1 hs1
  revert sh0 hs0 kn
  generalize s0 ++ s1 = s0
  intro kn sh0 hs0
  replace kn := (kn.take (.t .h)).take (.t .h)
  walk_at "w"
  refine s_set cx ?_
  walk_at "w"
  refine o_repS (m := 80) (by omega) (by omega) (by decide +kernel) (by decide +kernel) (by decide +kernel) fun t8 ht8 => ?_
  walk_at "w"
  obtain ⟨s1, hs1, sh1, kn⟩ : ∃ ts : List Str, ts.length = 4 ∧ Sh 90000 ts ∧ Kn R ((p, Is (.lst (ts.map V.str))) :: (_, Is (.lst (s0.map V.str))) :: N) [] H := by
    refine ⟨[_, _, _, _], rfl, ?_, kn⟩
    refine sh_cons (l_app (Nat.le_refl _) hv) (by kernel_rfl) ?_
    refine sh_cons (Nat.le_refl _) (by kernel_rfl) ?_
    refine sh_cons (l_app (Nat.le_refl _) ht8) (by kernel_rfl) ?_
    refine sh_cons (Nat.le_refl _) (by kernel_rfl) ?_
    exact sh_nil
  refine o_cat kn (.t .h) .h (by simp [hs0, hs1]) fun lp H kn => ?_
  rw [← List.map_append] at kn
  replace sh0 := sh_app sh0 sh1
  replace hs0 : (s0 ++ s1).length = 14 := by rw [List.length_append]; omega
  clear sh1 hs1
  revert sh0 hs0 kn
  generalize s0 ++ s1 = s0
  intro kn sh0 hs0
  replace kn := (kn.take (.t .h)).take (.t .h)
  walk_at "w"
  refine s_set cx ?_
  walk_at "w"
  obtain ⟨s1, hs1, sh1, kn⟩ : ∃ ts : List Str, ts.length = 6 ∧ Sh 90000 ts ∧ Kn R ((p, Is (.lst (ts.map V.str))) :: (_, Is (.lst (s0.map V.str))) :: N) [] H := by
    refine ⟨[_, _, _, _, _, _], rfl, ?_, kn⟩
    iterate 6 refine sh_cons (Nat.le_refl _) (by kernel_rfl) ?_
    exact sh_nil
  refine o_cat kn (.t .h) .h (by simp [hs0, hs1]) fun lp H kn => ?_
  rw [← List.map_append] at kn
  replace sh0 := sh_app sh0 sh1
  replace hs0 : (s0 ++ s1).length = 20 := by rw [List.length_append]; omega
  clear sh1 hs1
  revert sh0 hs0 kn
  generalize s0 ++ s1 = s0
  intro kn sh0 hs0
  replace kn := (kn.take (.t .h)).take (.t .h)
  walk_at "w"
  refine s_expr ?_
  refine w_append cx ?_
  walk_at "w"
  refine ⟨lp, rfl, ⟨_, kn.is .h⟩, ?_⟩
  walk_at "w"
  refine o_repS (m := 30) (by omega) (by omega) (by decide +kernel) (by decide +kernel) (by decide +kernel) fun t7 ht7 => ?_
  walk_at "w"
  refine ⟨_, _, _, _, _, kn, .h, by rw [List.length_map]; omega, fun H kn => ?_⟩
  have sh3 : Sh 90000 (s0 ++ [Str.ofString "free " ++ t7 ++ Str.ofString " free"]) := sh_app sh0 (sh_cons (l_app (l_app (Nat.le_refl _) ht7) (Nat.le_refl _)) (by kernel_rfl) sh_nil)
  refine h lp _ _ sh3 (by rw [List.length_append, hs0]; exact Nat.le_of_ble_eq_true rfl) ?_
  rw [List.map_append]
  exact kn
theorem c_reprT {k : Nat} {VL AL : List (Option Str)} {GL : List Str} {Q : VK} {M : List (Addr × (HO → Prop))} {L : List (Addr × Obj)} {p : Addr} {x y : Str} {n : Int} (cx : CxI P w K mg base k VL AL GL E X) (kn : Kn R M L H) (e : Ent R (Ex p (.tup [.str x, .int n, .str y]))) (hx : isEnd x) (hy : isEnd y) (n0 : 0 ≤ n) (n1 : n ≤ 1000000000000000000) (h : Q (.str (PyData.shown (.tuple [.str x, .int n, .str y]))) H) : Wcall X (.builtin "repr") [.ref p] H Q := by
  have hi : n.natAbs.log2 < 1920 := log_ok (by omega)
  refine c_reprD cx (d_tup kn e (.cons (.str x) (.cons (.int n) (.cons (.str y) .nil)))) ?_ rfl (by show 1 ≤ 100; decide) ?_ h
  · simp [PyData.showable, PyData.showableAll, hi]
  · have e1 := PyProof.Rows.int_text_len_1921 hi
    have e2 : (reprText x).length ≤ 7 := by rcases hx with rfl | rfl <;> decide +kernel
    have e2' : (reprText y).length ≤ 7 := by rcases hy with rfl | rfl <;> decide +kernel
    have e3 := tupleText_len_le [reprText x, Str.ofString (toString n), reprText y]
    show (tupleText [reprText x, Str.ofString (toString n), reprText y]).length ≤ sizeLine
    rw [PySem.sizeLine_eq]
    simp only [List.map_cons, List.map_nil, List.sum_cons, List.sum_nil, List.length_cons, List.length_nil] at e3
    omega
theorem c_reprW {k : Nat} {VL AL : List (Option Str)} {GL : List Str} {Q : VK} {M : List (Addr × (HO → Prop))} {L : List (Addr × Obj)} {p : Addr} {j : Int} (cx : CxI P w K mg base k VL AL GL E X) (kn : Kn R M L H) (e : Has p (Is (.lst [.str "text", .int j])) M) (hj : j = 0 ∨ j = 1 ∨ j = 2 ∨ j = 3) (h : Q (.str (PyData.shown (.list [.str "text", .int j]))) H) : Wcall X (.builtin "repr") [.ref p] H Q := by
  refine c_reprD cx (d_lst kn e (.cons (.str _) (.cons (.int j) .nil))) ?_ rfl (by show 1 ≤ 100; decide) ?_ h
  · rcases hj with rfl | rfl | rfl | rfl <;> decide +kernel
  · rcases hj with rfl | rfl | rfl | rfl <;> decide +kernel
theorem at_part' {ts : List Str} {j : Nat} (h : j < ts.length) : (ts.map V.str).getD j .non = .str (part ts j) := by
  unfold part
  simp [h]
/-- the loop over the texts -/
theorem seg_E (cx : CxI P w K mg base 7 v_law v_law g_law E X) (D2 : Df P w K mg base "_law_parsed" 7 ["_law_text"] spParsed) (D3 : Df P w K mg base "_law_due" 1 ["_law_text"] spDue) {lp : Addr} {ts : List Str} (hts : ∀ t ∈ ts, t.length ≤ 90000) (hl : ts.length ≤ 100) (kn : Kn R ((lp, Is (.lst (ts.map V.str))) :: N) [] H)
    (h : ∀ v11 H', Kn R N [] H' → Wss X rest ⟨nx, rt, bk, ct⟩ [some (.ref a), some (.ref ep), some (.int i), some (.ref s), v4, v5, v6, v7, v8, v9, some (.ref lp), v11] H') :
    Wss X (tbi 17 :: rest) ⟨nx, rt, bk, ct⟩ [some (.ref a), some (.ref ep), some (.int i), some (.ref s), v4, v5, v6, v7, v8, v9, some (.ref lp), v11] H := by
  change Wss X (.For _ _ _ _ _ :: rest) _ [_, _, _, _, _, _, _, _, _, _, _, _] _
  obtain ⟨R1, kn, er, e1⟩ : ∃ R1, Kn R1 N [] H ∧ Ent R1 (Ex lp (.lst (ts.map V.str))) ∧ Ent R1 R := ⟨_, kn.giveL .h, .h, .t .r⟩
  refine s_forW cx ?_
  refine wi_lst cx ?_
  walk_at "w"
  refine ⟨lp, _, rfl, .inl (.inl (kn.get er)), _, _, _, itw_list (xs := ts.map V.str), fun i_1 σ H => ∃ v11, σ = [some (.ref a), some (.ref ep), some (.int i), some (.ref s), v4, v5, v6, v7, v8, v9, some (.ref lp), v11] ∧ Kn R1 N [] H, ⟨_, rfl, kn⟩, fun i σ H _ ⟨_, _, kn⟩ => .inl (.inl (kn.get er)), ?_, ?_⟩
  · rintro j σ H hj ⟨v11, rfl, kn⟩
    have hj' : j < ts.length := by rw [List.length_map] at hj; exact hj
    refine g_name cx (by walk_at "set") ?_
    rw [at_part' hj']
    have hz : (part ts j).length ≤ 90000 := sh_part hts j
    revert hz
    generalize part ts j = z
    intro hz
    refine s_if ?_
    walk_at "w"
    refine ⟨z, R1, N, [], rfl, hz, kn, fun hb p1 H kn => ?_, fun j hb p1 H kn => ?_⟩
    · have he := badP_ends hb
      have hn := badP_num hb
      walk_at "w"
      refine c_reprT cx kn .h he.1 he.2 hn.1 hn.2 ?_
      walk_at "w"
      refine ⟨z, _, N, [], rfl, hz, kn, fun hb p2 H kn => ?_, fun j hb2 => by rw [hb] at hb2; cases hb2⟩
      walk_at "w"
      refine c_reprT cx kn .h he.1 he.2 hn.1 hn.2 ?_
      walk_at "w"
      exact ⟨_, rfl, kn.weak (.t (.t .r))⟩
    · have hj := badP_four hb
      walk_at "w"
      refine c_reprW cx kn .h hj ?_
      walk_at "w"
      refine ⟨z, _, _, [], rfl, hz, kn, (fun hb2 => by rw [hb] at hb2; cases hb2), fun j2 hb2 p2 H kn => ?_⟩
      rw [hb] at hb2
      cases hb2
      walk_at "w"
      refine c_reprW cx kn .h hj ?_
      walk_at "w"
      exact ⟨_, rfl, kn.drop1.drop1⟩
  · rintro σ H ⟨v11, rfl, kn⟩
    exact h _ _ (kn.weak e1)
end

end
end U

namespace U
section
open PySem PySem.Spec L2
open PySem.W (findIn isFn mroIn Looks InstAt)
open PyProof.Rows hiding St
set_option hygiene false
local macro_rules | `(tactic| walk_at "w") => `(tactic| repeat (first
  | (with_reducible refine ck_e ?_; first
    | (with_reducible refine ck_call ?_; with_reducible refine w_call cx (by (repeat (first | with_reducible exact In.h | apply In.t)); (first | done | fail)) D0 (by kernel_rfl) ?_)
    | (with_reducible refine ck_call ?_; with_reducible refine w_call cx (by (repeat (first | with_reducible exact In.h | apply In.t)); (first | done | fail)) D1 (by kernel_rfl) ?_)
    | (with_reducible refine ck_call ?_; with_reducible refine w_call cx (by (repeat (first | with_reducible exact In.h | apply In.t)); (first | done | fail)) D2 (by kernel_rfl) ?_)
    | (with_reducible refine ck_call ?_; with_reducible refine w_call cx (by (repeat (first | with_reducible exact In.h | apply In.t)); (first | done | fail)) D3 (by kernel_rfl) ?_)
    | (with_reducible refine ck_call ?_; with_reducible refine w_call cx (by (repeat (first | with_reducible exact In.h | apply In.t)); (first | done | fail)) D4 (by kernel_rfl) ?_)
    | (with_reducible refine ck_call ?_; with_reducible refine w_call cx (by (repeat (first | with_reducible exact In.h | apply In.t)); (first | done | fail)) D5 (by kernel_rfl) ?_)
    | (with_reducible refine ck_call ?_; with_reducible refine w_call cx (by (repeat (first | with_reducible exact In.h | apply In.t)); (first | done | fail)) D6 (by kernel_rfl) ?_)
    | (with_reducible refine ck_call ?_; with_reducible refine w_call cx (by (repeat (first | with_reducible exact In.h | apply In.t)); (first | done | fail)) D7 (by kernel_rfl) ?_)
    | (with_reducible refine ck_call ?_; with_reducible refine w_call cx (by (repeat (first | with_reducible exact In.h | apply In.t)); (first | done | fail)) D8 (by kernel_rfl) ?_)
    | (with_reducible refine ck_call ?_; with_reducible refine w_call cx (by (repeat (first | with_reducible exact In.h | apply In.t)); (first | done | fail)) D9 (by kernel_rfl) ?_)
    | (with_reducible refine ck_nm ?_; with_reducible refine w_var cx (by (repeat (first | with_reducible exact SlotIs.h | apply SlotIs.t)); (first | done | fail)) ?_)
    | with_reducible refine w_int ?_
    | with_reducible refine w_bin ?_
    | (with_reducible refine ck_ix ?_; with_reducible refine w_ix ?_)
    | (with_reducible refine ck_cmp ?_; with_reducible refine w_cmp ?_)
    | with_reducible refine w_str ?_
    | with_reducible refine w_tupK ?_
    | with_reducible refine w_lstK ?_
    | (with_reducible refine ck_call ?_; with_reducible refine w_len cx (by (repeat (first | with_reducible exact In.h | apply In.t)); (first | done | fail)) ?_)
    | (with_reducible refine ck_call ?_; with_reducible refine w_max cx (by (repeat (first | with_reducible exact In.h | apply In.t)); (first | done | fail)) ?_)
    | (with_reducible refine ck_call ?_; with_reducible refine w_min cx (by (repeat (first | with_reducible exact In.h | apply In.t)); (first | done | fail)) ?_)
    | (with_reducible refine ck_call ?_; with_reducible refine w_abs cx (by (repeat (first | with_reducible exact In.h | apply In.t)); (first | done | fail)) ?_)
    | (with_reducible refine ck_call ?_; with_reducible refine w_repr cx (by (repeat (first | with_reducible exact In.h | apply In.t)); (first | done | fail)) ?_)
    | (with_reducible refine ck_call ?_; with_reducible refine w_isinstance cx (by (repeat (first | with_reducible exact In.h | apply In.t)); (first | done | fail)) ?_)
    | (with_reducible refine ck_call ?_; with_reducible refine w_sorted cx (by (repeat (first | with_reducible exact In.h | apply In.t)); (first | done | fail)) ?_)
    | (with_reducible refine ck_call ?_; with_reducible refine w_all cx (by (repeat (first | with_reducible exact In.h | apply In.t)); (first | done | fail)) ?_)
    | (with_reducible refine ck_call ?_; with_reducible refine w_any cx (by (repeat (first | with_reducible exact In.h | apply In.t)); (first | done | fail)) ?_)
    | (with_reducible refine ck_call ?_; with_reducible refine w_sum cx (by (repeat (first | with_reducible exact In.h | apply In.t)); (first | done | fail)) ?_)
    | (with_reducible refine ck_call ?_; with_reducible refine w_intT cx (by (repeat (first | with_reducible exact In.h | apply In.t)); (first | done | fail)) ?_)
    | (with_reducible refine ck_call ?_; with_reducible refine w_strT cx (by (repeat (first | with_reducible exact In.h | apply In.t)); (first | done | fail)) ?_)
    | (with_reducible refine ck_call ?_; with_reducible refine w_tupleT cx (by (repeat (first | with_reducible exact In.h | apply In.t)); (first | done | fail)) ?_)
    | (with_reducible refine ck_call ?_; with_reducible refine w_listT cx (by (repeat (first | with_reducible exact In.h | apply In.t)); (first | done | fail)) ?_)
    | (with_reducible refine ck_call ?_; with_reducible refine w_dictT cx (by (repeat (first | with_reducible exact In.h | apply In.t)); (first | done | fail)) ?_)
    | (with_reducible refine ck_call ?_; with_reducible refine w_boolT cx (by (repeat (first | with_reducible exact In.h | apply In.t)); (first | done | fail)) ?_)
    | (with_reducible refine ck_atr ?_; with_reducible refine w_attr ?_)
    | with_reducible refine w_un ?_
    | (with_reducible refine ck_cmp ?_; with_reducible refine w_chain ?_)
    | with_reducible refine w_and ?_
    | with_reducible refine w_or ?_
    | with_reducible refine w_bool1 ?_
    | with_reducible refine w_not ?_
    | with_reducible refine w_if ?_
    | with_reducible refine w_bl ?_
    | with_reducible refine w_non ?_
    | with_reducible refine w_joined ?_
    | with_reducible refine w_joined1 ?_
    | with_reducible refine w_fmt ?_)
  | (with_reducible refine ck_a ?_; first
    | with_reducible refine wa_star cx ?_
    | with_reducible refine wa_cons ?_
    | with_reducible refine wa_nil ?_)
  | (with_reducible refine ck_s ?_; first
    | with_reducible refine s_aug cx (by (repeat (first | with_reducible exact SlotIs.h | apply SlotIs.t)); (first | done | fail)) rfl ?_
    | (with_reducible refine ck_asgn ?_; with_reducible refine s_set cx ?_)
    | with_reducible refine s_if ?_
    | with_reducible refine s_ret ?_
    | with_reducible refine s_nil ?_
    | (with_reducible refine ck_xpr ?_; with_reducible refine s_expr ?_)
    | (with_reducible refine ck_asgn ?_; with_reducible refine s_asg ?_)
    | with_reducible refine s_pass ?_
    | with_reducible refine s_break ?_
    | with_reducible refine s_cont ?_
    | with_reducible refine s_retN ?_)
  | (with_reducible refine ck_o ?_; first
    | with_reducible refine o_eqI ?_
    | with_reducible refine o_addSn (by repeat (first | with_reducible exact l_emp | with_reducible exact l_en | with_reducible exact l_sp | with_reducible exact l_dir | with_reducible assumption | with_reducible exact l_frt (by first | with_reducible assumption | exact log_ok (by omega)) | with_reducible exact l_int (by first | with_reducible assumption | exact log_ok (by omega)) | with_reducible apply l_app | with_reducible exact Nat.le_refl _)) (by repeat (first | with_reducible exact l_emp | with_reducible exact l_en | with_reducible exact l_sp | with_reducible exact l_dir | with_reducible assumption | with_reducible exact l_frt (by first | with_reducible assumption | exact log_ok (by omega)) | with_reducible exact l_int (by first | with_reducible assumption | exact log_ok (by omega)) | with_reducible apply l_app | with_reducible exact Nat.le_refl _)) (by kernel_rfl) ?_
    | with_reducible refine o_add ?_
    | with_reducible refine o_sub ?_
    | with_reducible refine o_lt ?_
    | with_reducible refine o_le ?_
    | with_reducible refine o_gt ?_
    | with_reducible refine o_ge ?_
    | with_reducible refine o_eqI ?_
    | with_reducible refine o_neI ?_
    | with_reducible refine o_eqS ?_
    | with_reducible refine o_neS ?_
    | with_reducible refine o_neB ?_
    | with_reducible refine o_eqB ?_
    | with_reducible refine o_isN ?_
    | with_reducible refine o_notN ?_
    | with_reducible refine o_mod (by omega) ?_
    | with_reducible refine o_mulL (by omega) ?_
    | with_reducible refine o_mulR (by omega) ?_
    | with_reducible refine o_fdiv (by omega) ?_
    | with_reducible refine o_pow (by simp only [Int.reduceToNat, Int.reducePow]; first | done | rfl) (by omega) (by decide +kernel) ?_
    | with_reducible refine o_neL0 cx (by with_reducible assumption) (by (repeat (first | with_reducible assumption | with_reducible exact Has.h | apply Has.t)); (first | done | fail)) (by (repeat (first | with_reducible assumption | with_reducible exact Has.h | apply Has.t)); (first | done | fail)) ?_
    | with_reducible refine o_fdivB (by omega) ?_)
  | (with_reducible refine ck_c ?_; first
    | with_reducible refine c_strI (by first | with_reducible assumption | exact log_ok (by omega)) ?_
    | with_reducible refine c_reprI (by first | with_reducible assumption | exact log_ok (by omega)) ?_
    | with_reducible refine c_lenS (Nat.le_trans (by repeat (first | with_reducible exact l_emp | with_reducible exact l_en | with_reducible exact l_sp | with_reducible exact l_dir | with_reducible assumption | with_reducible exact l_frt (by first | with_reducible assumption | exact log_ok (by omega)) | with_reducible exact l_int (by first | with_reducible assumption | exact log_ok (by omega)) | with_reducible apply l_app | with_reducible exact Nat.le_refl _)) (Nat.le_of_ble_eq_true (by kernel_rfl))) ?_
    | with_reducible refine c_max cx ?_
    | with_reducible refine c_min cx ?_
    | with_reducible refine c_abs ?_
    | with_reducible refine c_intI ?_
    | with_reducible refine c_intB ?_
    | with_reducible refine c_strS ?_
    | with_reducible refine c_lenT (by with_reducible assumption) (by (repeat (first | with_reducible assumption | with_reducible exact Ent.h | apply Ent.t)); (first | done | fail)) ?_
    | with_reducible refine c_lenL (by with_reducible assumption) (by (repeat (first | with_reducible assumption | with_reducible exact Has.h | apply Has.t)); (first | done | fail)) ?_
    | with_reducible refine c_lenX (by with_reducible assumption) (by (repeat (first | with_reducible assumption | with_reducible exact Ent.h | apply Ent.t)); (first | done | fail)) ?_
    | with_reducible refine c_lenQ cx (by with_reducible assumption) (by (repeat (first | with_reducible assumption | with_reducible exact Ent.h | apply Ent.t)); (first | done | fail)) ?_)
  | (with_reducible refine ck_x ?_; first
    | with_reducible refine x_tup (by with_reducible assumption) (by (repeat (first | with_reducible assumption | with_reducible exact Ent.h | apply Ent.t)); (first | done | fail)) (by first | with_reducible exact at0 | with_reducible exact at1 | with_reducible exact at2) ?_
    | with_reducible refine x_lst (by with_reducible assumption) (by (repeat (first | with_reducible assumption | with_reducible exact Has.h | apply Has.t)); (first | done | fail)) (by first | with_reducible exact at0 | with_reducible exact at1 | with_reducible exact at2) ?_
    | with_reducible refine x_lstX (by with_reducible assumption) (by (repeat (first | with_reducible assumption | with_reducible exact Ent.h | apply Ent.t)); (first | done | fail)) (by first | with_reducible exact at0 | with_reducible exact at1 | with_reducible exact at2) ?_)
  | (with_reducible refine ck_t ?_; first
    | (with_reducible refine ck_tc ?_; with_reducible refine t_cmp ?_)
    | (with_reducible refine ck_tc ?_; with_reducible refine t_chain ?_)
    | with_reducible refine t_not ?_
    | with_reducible refine t_and ?_
    | with_reducible refine t_or ?_
    | with_reducible refine t_val ?_)
  | (with_reducible refine ck_w ?_; first
    | with_reducible refine ww_and ?_
    | with_reducible refine ww_or ?_
    | with_reducible refine ww_and1 ?_
    | with_reducible refine ww_or1 ?_)
  | (with_reducible refine ck_p ?_; first
    | with_reducible refine p_l0 (by with_reducible assumption) (by (repeat (first | with_reducible assumption | with_reducible exact Put.h | apply Put.t)); (first | done | fail)) ?_
    | with_reducible refine p_l1 (by with_reducible assumption) (by (repeat (first | with_reducible assumption | with_reducible exact Put.h | apply Put.t)); (first | done | fail)) ?_
    | with_reducible refine p_l2 (by with_reducible assumption) (by (repeat (first | with_reducible assumption | with_reducible exact Put.h | apply Put.t)); (first | done | fail)) ?_)
  | (with_reducible refine ck_f ?_; first
    | with_reducible refine f_str (Nat.le_trans (by repeat (first | with_reducible exact l_emp | with_reducible exact l_en | with_reducible exact l_sp | with_reducible exact l_dir | with_reducible assumption | with_reducible exact l_frt (by first | with_reducible assumption | exact log_ok (by omega)) | with_reducible exact l_int (by first | with_reducible assumption | exact log_ok (by omega)) | with_reducible apply l_app | with_reducible exact Nat.le_refl _)) (Nat.le_of_ble_eq_true (by kernel_rfl))) ?_
    | with_reducible refine f_int (by first | with_reducible assumption | exact log_ok (by omega)) ?_)
  | (with_reducible refine ck_j ?_; first
    | with_reducible refine wj_nil ?_
    | with_reducible refine wj_cons ?_)
  | (with_reducible refine ck_g ?_; first
    | (with_reducible refine ck_gn ?_; with_reducible refine g_name cx (by (repeat (first | with_reducible exact SetAt.h | apply SetAt.t)); (first | done | fail)) ?_)
    | (with_reducible refine ck_gx ?_; with_reducible refine g_sub ?_))
  | (with_reducible refine ck_i ?_; first
    | with_reducible refine i_not ?_
    | with_reducible refine i_t (by with_reducible rfl) ?_
    | with_reducible refine i_t ⟨rfl, rfl, rfl⟩ ?_
    | with_reducible refine i_t (by with_reducible assumption) ?_
    | with_reducible refine i_f (by with_reducible assumption) ?_
    | with_reducible refine i_t (by omega) ?_
    | with_reducible refine i_f (by omega) ?_
    | with_reducible refine i_t (by simp only [List.length_cons, List.length_nil]; omega) ?_
    | with_reducible refine i_f (by simp only [List.length_cons, List.length_nil]; omega) ?_)
  | (with_reducible refine ck_i ?_; first
    | with_reducible refine iteT ?_)
  | (with_reducible refine ck_i ?_; first
    | with_reducible refine iteF ?_)
  | (with_reducible refine ck_st ?_; first
    | with_reducible refine k_set (by (repeat (first | with_reducible exact SetAt.h | apply SetAt.t)); (first | done | fail)) ?_)
  | with_reducible refine wpo_none ?_
  | with_reducible refine wpo_some ?_
  | with_reducible refine k_sj (by repeat (first | with_reducible exact l_emp | with_reducible exact l_en | with_reducible exact l_sp | with_reducible exact l_dir | with_reducible assumption | with_reducible exact l_frt (by first | with_reducible assumption | exact log_ok (by omega)) | with_reducible exact l_int (by first | with_reducible assumption | exact log_ok (by omega)) | with_reducible apply l_app | with_reducible exact Nat.le_refl _)) (by kernel_rfl) ?_
  | with_reducible refine k_bl ?_
  | with_reducible refine o_neg ?_
  | with_reducible refine k_sfld (by with_reducible assumption) (by (repeat (first | with_reducible assumption | with_reducible exact Put.h | apply Put.t)); (first | done | fail)) (by repeat (first | with_reducible exact FL.z | apply FL.s)) (by with_unfolding_all rfl) ?_
  | with_reducible refine gs_nil ?_
  | with_reducible refine gs_cons ?_
  | (with_reducible refine ⟨_, _, _, (by with_reducible assumption), (by with_unfolding_all exact Nat.le_of_ble_eq_true rfl), ?_⟩; intro p H kn)
  | (with_reducible intro H kn)))
/-! k03: the law -/
def spLaw (K : PySem.W.Frag) : Sp := fun vs H Q _ => ∃ (a : Addr) (ns : List Int), vs = [.ref a] ∧ SqL K H a (ns.map V.int) ∧ ns.length ≤ 63 ∧ ∀ H', Q (.bl true) H'
section
variable {P : Program} {w : World} {K : PySem.W.Frag} {mg : Str → Option Value} {base : Heap}
theorem ok_law {fa : Addr} {fd : FuncData} (F : Fun K "law" "law" s_law fa fd) (bl : ∀ x ∈ blts, mg x = none) (D0 : Df P w K mg base "_law_source" 1 ["_law_script", "_law_index"] (spSource K)) (D1 : Df P w K mg base "_law_draw" 1 ["_law_source_here", "_law_bound"] spDraw) (D2 : Df P w K mg base "_law_told" 5 ["_law_pieces", "_law_front", "_law_back"] spTold)
    (D3 : Df P w K mg base "_law_parsed" 7 ["_law_text"] spParsed) (D4 : Df P w K mg base "_law_due" 1 ["_law_text"] spDue) : Fk P w K mg base 8 fa fd ["_law_script"] (spLaw K) := by
  refine fn_okW F sc_law nq_law ck_law bl (fun vs H Q E h => ?_) (fun X H vs Q E cx h => ?_)
  · obtain ⟨a, ns, rfl, _⟩ := h
    rfl
  · obtain ⟨a, ns, rfl, hS, hlen, k⟩ := h
    obtain ⟨R0, kn, e0⟩ : ∃ R0, Kn R0 [] [] H ∧ Ent R0 (fun J => SqL K J a (ns.map V.int)) := ⟨_, Kn.start hS, .r⟩
    clear hS
    change Wss X [_, .For _ _ tb _ _, _] _ [_, _, _, _, _, _, _, _, _, _, _, _] _
    generalize htb : tb = body
    refine s_set cx ?_
    walk_at "w"
    obtain ⟨ep, rfl⟩ : ∃ ep, ep = p := ⟨_, rfl⟩
    change Kn R0 ((ep, Is (.lst (endsS.map V.str))) :: []) [] H at kn
    refine s_forW cx ?_
    refine wi_rng1 cx (by walk_at "in") ?_
    walk_at "w"
    refine ⟨_, rfl, by (repeat' split) <;> omega, by (repeat' split) <;> omega, _, _, _, itw_rng, fun i σ H => ∃ v1 v2 v3 v4 v5 v6 v8 v9 v10 v11, σ = [some (.ref a), some (.ref ep), v1, v2, v3, v4, v5, v6, v8, v9, v10, v11] ∧ Kn R0 [(ep, Is (.lst (endsS.map V.str)))] [] H, ⟨_, _, _, _, _, _, _, _, _, _, rfl, kn⟩, fun _ _ _ _ _ => trivial, ?_, ?_⟩
    · rintro i σ H hi ⟨v1, v2, v3, v4, v5, v6, v8, v9, v10, v11, rfl, kn⟩
      have hi5 : i ≤ 5 := by
        have z : i < ((if (if (ns.map V.int).length < (4 : Int) then ((ns.map V.int).length : Int) else 4) > 1 then (if ((ns.map V.int).length : Int) < 4 then ((ns.map V.int).length : Int) else 4) else 1 : Int)).toNat := hi
        revert z
        (repeat' split) <;> omega
      refine g_name cx (by walk_at "set") ?_
      rw [← htb]
      change Wss X (tbi 0 :: tbi 1 :: tbi 2 :: tbi 3 :: tbi 4 :: [tbi 5, tbi 6, tbi 7, tbi 8, tbi 9, tbi 10, tbi 11, tbi 12, tbi 13, tbi 14, tbi 15, tbi 16, tbi 17]) _ _ _
      refine seg_A cx D0 D1 kn e0 (by omega) (by omega) (by omega) fun s n ju jv H kn => ?_
      refine seg_B cx D2 kn fun dv H kn => ?_
      refine seg_C cx D1 kn fun v8 t H ht kn => ?_
      refine seg_D cx ht (end_len ju) (end_len jv) kn fun lp ts H hts hl kn => ?_
      refine seg_E cx D3 D4 hts hl kn fun v11 H kn => ?_
      refine s_nil ?_
      exact ⟨_, _, _, _, _, _, _, _, _, _, rfl, kn.drop1⟩
    · rintro σ H ⟨v1, v2, v3, v4, v5, v6, v8, v9, v10, v11, rfl, kn⟩
      walk_at "w"
      exact k _
end

end
end U

end
namespace U
section
open PySem PySem.Spec L2
open PySem.W (findIn isFn mroIn Looks InstAt)
open PyProof.Rows hiding St
theorem all_mk {l : PySem.W.OpenLaw} {w : World} {K : PySem.W.Frag} {h : Heap} {mg : Str → Option Value} {fa f_BadFrame_init f_BadText_init f_number_of f_Frame_init f_Frame_parse p_Frame_parse f_source f_draw f_word f_told f_parsed f_due f_law : Addr} {C_Frame C_RopeError C_BadFrame C_BadText C_BadPlace C_BadPulse d : Addr} {es : Array DictEntry} {n : Nat} {t1 t2 t3 t4 t5 : Tok} {nm_BadFrame q_BadFrame : Str} {N_BadFrame : Addr} {bs_BadFrame : List Value} {sn_BadFrame : List Str} {sub_BadFrame : List Value} {ab_BadFrame : Bool} {col_BadFrame : Option Bool} {dd_BadFrame : Option Addr} {m0_BadFrame m1_BadFrame m2_BadFrame m3_BadFrame m5_BadFrame : Option Value} {nm_BadText q_BadText : Str} {N_BadText : Addr} {bs_BadText : List Value} {sn_BadText : List Str} {sub_BadText : List Value} {ab_BadText : Bool} {col_BadText : Option Bool} {dd_BadText : Option Addr} {m0_BadText m1_BadText m2_BadText m3_BadText m5_BadText : Option Value} {od_BadFrame_init an_BadFrame_init od_BadText_init an_BadText_init od_number_of an_number_of od_Frame_init an_Frame_init od_Frame_parse an_Frame_parse od_source an_source od_draw an_draw od_word an_word od_told an_told od_parsed an_parsed od_due an_due od_law an_law : Option Addr} {sl_BadFrame_init sl_BadText_init sl_number_of sl_Frame_init sl_Frame_parse sl_source sl_draw sl_word sl_told sl_parsed sl_due sl_law : Array (Option Value)} {oc_BadFrame_init kV_BadFrame_init dc_BadFrame_init pm_BadFrame_init cd_BadFrame_init ct_BadFrame_init oc_BadText_init kV_BadText_init dc_BadText_init pm_BadText_init cd_BadText_init ct_BadText_init oc_number_of kV_number_of dc_number_of pm_number_of cd_number_of ct_number_of oc_Frame_init kV_Frame_init dc_Frame_init pm_Frame_init cd_Frame_init ct_Frame_init oc_Frame_parse kV_Frame_parse dc_Frame_parse pm_Frame_parse cd_Frame_parse ct_Frame_parse oc_source kV_source dc_source pm_source cd_source ct_source oc_draw kV_draw dc_draw pm_draw cd_draw ct_draw oc_word kV_word dc_word pm_word cd_word ct_word oc_told kV_told dc_told pm_told cd_told ct_told oc_parsed kV_parsed dc_parsed pm_parsed cd_parsed ct_parsed oc_due kV_due dc_due pm_due cd_due ct_due oc_law kV_law dc_law pm_law cd_law ct_law : Value} (X : K.In h) (G : h.Ns mainGlobals mg) (hfa : mg "law" = some (.ref fa))
    (ac_Frame : PySem.W.nsIn K mainGlobals "Frame" = some (some (.ref C_Frame)))
    (pg_Frame : PySem.W.plainGet K C_Frame Str.empty = true)
    (hd_Frame : PySem.W.hasDictIn K C_Frame = true)
    (po_Frame : PySem.W.plainOver K C_Frame = true)
    (sa_Frame : findIn K (.ref C_Frame) "__setattr__" = some (some (.builtin "object.__setattr__")))
    (mk_Frame : PySem.W.makesIn K C_Frame = true)
    (kc_Frame : PySem.W.keepIn K (.ref C_Frame) = true)
    (rd_Frame : PySem.W.readsIn K C_Frame (.type "type") = true)
    (ga_Frame : PySem.W.specialIn K (.ref C_Frame) "__getattribute__" = some (some (.builtin "type.__getattribute__")))
    (ac_RopeError : PySem.W.nsIn K mainGlobals "RopeError" = some (some (.ref C_RopeError)))
    (ty_RopeError : PySem.W.typeIn K (.ref C_RopeError) = some (.type "type"))
    (ic_RopeError : PySem.W.isClsIn K C_RopeError = true)
    (be_RopeError : PySem.W.subIn K (.ref C_RopeError) (.type "BaseException") = some true)
    (rd_RopeError : PySem.W.readsIn K C_RopeError (.type "type") = true)
    (gs_RopeError : PySem.W.specialIn K (.ref C_RopeError) "__getattribute__" = some (some (.builtin "type.__getattribute__")))
    (in_RopeError : PySem.W.findCls K (.ref C_RopeError) (.type "type") "__init__" = some (.val (.builtin "ValueError.__init__")))
    (ac_BadFrame : PySem.W.nsIn K mainGlobals "BadFrame" = some (some (.ref C_BadFrame)))
    (lk_BadFrame : K.lookup C_BadFrame = some (excClassObj nm_BadFrame q_BadFrame C_BadFrame N_BadFrame bs_BadFrame [.ref C_RopeError, .type "ValueError", .type "Exception", .type "BaseException", .type "object"] true sn_BadFrame sub_BadFrame ab_BadFrame col_BadFrame dd_BadFrame m0_BadFrame m1_BadFrame m2_BadFrame m3_BadFrame m5_BadFrame "ValueError.__new__"))
    (sa_BadFrame : findIn K (.ref C_BadFrame) "__setattr__" = some (some (.builtin "object.__setattr__")))
    (be_BadFrame : PySem.W.subIn K (.ref C_BadFrame) (.type "BaseException") = some true)
    (ty_BadFrame : PySem.W.typeIn K (.ref C_BadFrame) = some (.type "type"))
    (kc_BadFrame : PySem.W.keepIn K (.ref C_BadFrame) = true)
    (sr_BadFrame : PySem.W.subIn K (.ref C_BadFrame) (.ref C_RopeError) = some true)
    (na_BadFrame : findIn K (.ref C_BadFrame) "name" = some none)
    (ac_BadText : PySem.W.nsIn K mainGlobals "BadText" = some (some (.ref C_BadText)))
    (lk_BadText : K.lookup C_BadText = some (excClassObj nm_BadText q_BadText C_BadText N_BadText bs_BadText [.ref C_RopeError, .type "ValueError", .type "Exception", .type "BaseException", .type "object"] true sn_BadText sub_BadText ab_BadText col_BadText dd_BadText m0_BadText m1_BadText m2_BadText m3_BadText m5_BadText "ValueError.__new__"))
    (sa_BadText : findIn K (.ref C_BadText) "__setattr__" = some (some (.builtin "object.__setattr__")))
    (be_BadText : PySem.W.subIn K (.ref C_BadText) (.type "BaseException") = some true)
    (ty_BadText : PySem.W.typeIn K (.ref C_BadText) = some (.type "type"))
    (kc_BadText : PySem.W.keepIn K (.ref C_BadText) = true)
    (sr_BadText : PySem.W.subIn K (.ref C_BadText) (.ref C_RopeError) = some true)
    (na_BadText : findIn K (.ref C_BadText) "index" = some none)
    (ga_BadFrame : findIn K (.ref C_BadFrame) "__getattribute__" = some (some (.builtin "BaseException.__getattribute__")))
    (gg_BadFrame : findIn K (.ref C_BadFrame) "__getattr__" = some none)
    (hd_BadFrame : PySem.W.hasDictIn K C_BadFrame = true)
    (ca_BadFrame : findIn K (.ref C_BadFrame) "__class__" = some (some (.builtin "object.__class__")))
    (mo_BadFrame : PySem.W.mroIn K C_BadFrame (.type "object") = some true)
    (ss_BadFrame : PySem.W.subIn K (.ref C_BadFrame) (.ref C_BadFrame) = some true)
    (ga_BadText : findIn K (.ref C_BadText) "__getattribute__" = some (some (.builtin "BaseException.__getattribute__")))
    (gg_BadText : findIn K (.ref C_BadText) "__getattr__" = some none)
    (hd_BadText : PySem.W.hasDictIn K C_BadText = true)
    (ca_BadText : findIn K (.ref C_BadText) "__class__" = some (some (.builtin "object.__class__")))
    (mo_BadText : PySem.W.mroIn K C_BadText (.type "object") = some true)
    (ss_BadText : PySem.W.subIn K (.ref C_BadText) (.ref C_BadText) = some true)
    (ic_BadFrame : PySem.W.isClsIn K C_BadFrame = true)
    (ic_BadText : PySem.W.isClsIn K C_BadText = true)
    (ac_BadPlace : PySem.W.nsIn K mainGlobals "BadPlace" = some (some (.ref C_BadPlace)))
    (ty_BadPlace : PySem.W.typeIn K (.ref C_BadPlace) = some (.type "type"))
    (ic_BadPlace : PySem.W.isClsIn K C_BadPlace = true)
    (ac_BadPulse : PySem.W.nsIn K mainGlobals "BadPulse" = some (some (.ref C_BadPulse)))
    (ty_BadPulse : PySem.W.typeIn K (.ref C_BadPulse) = some (.type "type"))
    (ic_BadPulse : PySem.W.isClsIn K C_BadPulse = true)
    (ns_BadFrame_BadPlace : PySem.W.subIn K (.ref C_BadFrame) (.ref C_BadPlace) = some false)
    (ns_BadFrame_BadPulse : PySem.W.subIn K (.ref C_BadFrame) (.ref C_BadPulse) = some false)
    (ns_BadFrame_BadText : PySem.W.subIn K (.ref C_BadFrame) (.ref C_BadText) = some false)
    (ns_BadText_BadFrame : PySem.W.subIn K (.ref C_BadText) (.ref C_BadFrame) = some false)
    (ns_BadText_BadPlace : PySem.W.subIn K (.ref C_BadText) (.ref C_BadPlace) = some false)
    (ns_BadText_BadPulse : PySem.W.subIn K (.ref C_BadText) (.ref C_BadPulse) = some false)
    (cn_Frame : PySem.W.specialIn K (.builtin "object.__class__") "__get__" = some (some (.builtin "getset_descriptor.__get__")))
    (ct_Frame : PySem.W.takesIn K (.builtin "object.__class__") = some true)
    (a_BadFrame_init : findIn K (.ref C_BadFrame) "__init__" = some (some (.ref f_BadFrame_init)))
    (i_BadFrame_init : isFn K (.ref f_BadFrame_init) = true)
    (l_BadFrame_init : K.lookup f_BadFrame_init = some ⟨oc_BadFrame_init, od_BadFrame_init, .func (PySem.W.fnOf "__init__" "BadFrame.__init__" (defArgs s_BadFrame_init) (defBody s_BadFrame_init) (defScope s_BadFrame_init) .none kV_BadFrame_init dc_BadFrame_init pm_BadFrame_init an_BadFrame_init cd_BadFrame_init ct_BadFrame_init), sl_BadFrame_init⟩)
    (c_BadFrame_init : PySem.W.codeIn K cd_BadFrame_init "BadFrame.__init__" = true)
    (k_BadFrame_init : PySem.W.keepIn K (.ref f_BadFrame_init) = true)
    (a_BadText_init : findIn K (.ref C_BadText) "__init__" = some (some (.ref f_BadText_init)))
    (i_BadText_init : isFn K (.ref f_BadText_init) = true)
    (l_BadText_init : K.lookup f_BadText_init = some ⟨oc_BadText_init, od_BadText_init, .func (PySem.W.fnOf "__init__" "BadText.__init__" (defArgs s_BadText_init) (defBody s_BadText_init) (defScope s_BadText_init) .none kV_BadText_init dc_BadText_init pm_BadText_init an_BadText_init cd_BadText_init ct_BadText_init), sl_BadText_init⟩)
    (c_BadText_init : PySem.W.codeIn K cd_BadText_init "BadText.__init__" = true)
    (k_BadText_init : PySem.W.keepIn K (.ref f_BadText_init) = true)
    (a_number_of : PySem.W.nsIn K mainGlobals "number_of" = some (some (.ref f_number_of)))
    (l_number_of : K.lookup f_number_of = some ⟨oc_number_of, od_number_of, .func (PySem.W.fnOf "number_of" "number_of" (defArgs s_number_of) (defBody s_number_of) (defScope s_number_of) .none kV_number_of dc_number_of pm_number_of an_number_of cd_number_of ct_number_of), sl_number_of⟩)
    (c_number_of : PySem.W.codeIn K cd_number_of "number_of" = true)
    (k_number_of : PySem.W.keepIn K (.ref f_number_of) = true)
    (a_Frame_init : findIn K (.ref C_Frame) "__init__" = some (some (.ref f_Frame_init)))
    (i_Frame_init : isFn K (.ref f_Frame_init) = true)
    (l_Frame_init : K.lookup f_Frame_init = some ⟨oc_Frame_init, od_Frame_init, .func (PySem.W.fnOf "__init__" "Frame.__init__" (defArgs s_Frame_init) (defBody s_Frame_init) (defScope s_Frame_init) .none kV_Frame_init dc_Frame_init pm_Frame_init an_Frame_init cd_Frame_init ct_Frame_init), sl_Frame_init⟩)
    (c_Frame_init : PySem.W.codeIn K cd_Frame_init "Frame.__init__" = true)
    (k_Frame_init : PySem.W.keepIn K (.ref f_Frame_init) = true)
    (a_Frame_parse : PySem.W.findCls K (.ref C_Frame) (.type "type") "parse" = some (.get (.builtin "classmethod.__get__") (.ref p_Frame_parse) .none (.ref C_Frame)))
    (r_Frame_parse : ∃ rest, PySem.W.recIn K p_Frame_parse "classmethod" = some (.ref f_Frame_parse :: rest))
    (i_Frame_parse : PySem.W.fnIn K f_Frame_parse = true)
    (l_Frame_parse : K.lookup f_Frame_parse = some ⟨oc_Frame_parse, od_Frame_parse, .func (PySem.W.fnOf "parse" "Frame.parse" (defArgs s_Frame_parse) (defBody s_Frame_parse) (defScope s_Frame_parse) .none kV_Frame_parse dc_Frame_parse pm_Frame_parse an_Frame_parse cd_Frame_parse ct_Frame_parse), sl_Frame_parse⟩)
    (c_Frame_parse : PySem.W.codeIn K cd_Frame_parse "Frame.parse" = true)
    (k_Frame_parse : PySem.W.keepIn K (.ref f_Frame_parse) = true)
    (a_source : PySem.W.nsIn K mainGlobals "_law_source" = some (some (.ref f_source)))
    (l_source : K.lookup f_source = some ⟨oc_source, od_source, .func (PySem.W.fnOf "_law_source" "_law_source" (defArgs s_source) (defBody s_source) (defScope s_source) .none kV_source dc_source pm_source an_source cd_source ct_source), sl_source⟩)
    (c_source : PySem.W.codeIn K cd_source "_law_source" = true)
    (k_source : PySem.W.keepIn K (.ref f_source) = true)
    (a_draw : PySem.W.nsIn K mainGlobals "_law_draw" = some (some (.ref f_draw)))
    (l_draw : K.lookup f_draw = some ⟨oc_draw, od_draw, .func (PySem.W.fnOf "_law_draw" "_law_draw" (defArgs s_draw) (defBody s_draw) (defScope s_draw) .none kV_draw dc_draw pm_draw an_draw cd_draw ct_draw), sl_draw⟩)
    (c_draw : PySem.W.codeIn K cd_draw "_law_draw" = true)
    (k_draw : PySem.W.keepIn K (.ref f_draw) = true)
    (a_word : PySem.W.nsIn K mainGlobals "_law_word" = some (some (.ref f_word)))
    (l_word : K.lookup f_word = some ⟨oc_word, od_word, .func (PySem.W.fnOf "_law_word" "_law_word" (defArgs s_word) (defBody s_word) (defScope s_word) .none kV_word dc_word pm_word an_word cd_word ct_word), sl_word⟩)
    (c_word : PySem.W.codeIn K cd_word "_law_word" = true)
    (k_word : PySem.W.keepIn K (.ref f_word) = true)
    (a_told : PySem.W.nsIn K mainGlobals "_law_told" = some (some (.ref f_told)))
    (l_told : K.lookup f_told = some ⟨oc_told, od_told, .func (PySem.W.fnOf "_law_told" "_law_told" (defArgs s_told) (defBody s_told) (defScope s_told) .none kV_told dc_told pm_told an_told cd_told ct_told), sl_told⟩)
    (c_told : PySem.W.codeIn K cd_told "_law_told" = true)
    (k_told : PySem.W.keepIn K (.ref f_told) = true)
    (a_parsed : PySem.W.nsIn K mainGlobals "_law_parsed" = some (some (.ref f_parsed)))
    (l_parsed : K.lookup f_parsed = some ⟨oc_parsed, od_parsed, .func (PySem.W.fnOf "_law_parsed" "_law_parsed" (defArgs s_parsed) (defBody s_parsed) (defScope s_parsed) .none kV_parsed dc_parsed pm_parsed an_parsed cd_parsed ct_parsed), sl_parsed⟩)
    (c_parsed : PySem.W.codeIn K cd_parsed "_law_parsed" = true)
    (k_parsed : PySem.W.keepIn K (.ref f_parsed) = true)
    (a_due : PySem.W.nsIn K mainGlobals "_law_due" = some (some (.ref f_due)))
    (l_due : K.lookup f_due = some ⟨oc_due, od_due, .func (PySem.W.fnOf "_law_due" "_law_due" (defArgs s_due) (defBody s_due) (defScope s_due) .none kV_due dc_due pm_due an_due cd_due ct_due), sl_due⟩)
    (c_due : PySem.W.codeIn K cd_due "_law_due" = true)
    (k_due : PySem.W.keepIn K (.ref f_due) = true)
    (a_law : PySem.W.nsIn K mainGlobals "law" = some (some (.ref f_law)))
    (l_law : K.lookup f_law = some ⟨oc_law, od_law, .func (PySem.W.fnOf "law" "law" (defArgs s_law) (defBody s_law) (defScope s_law) .none kV_law dc_law pm_law an_law cd_law ct_law), sl_law⟩)
    (c_law : PySem.W.codeIn K cd_law "law" = true)
    (k_law : PySem.W.keepIn K (.ref f_law) = true)
    (n_Frame_pieces : findIn K (.ref C_Frame) "pieces" = some none)
    (n_Frame_front : findIn K (.ref C_Frame) "front" = some none)
    (n_Frame_back : findIn K (.ref C_Frame) "back" = some none)
    (n_Frame_front_sign : findIn K (.ref C_Frame) "front_sign" = some none)
    (n_Frame_back_sign : findIn K (.ref C_Frame) "back_sign" = some none)
    (ag_SIGNS : PySem.W.nsIn K mainGlobals "SIGNS" = some (some (.ref d)))
    (lk_SIGNS : K.lookup d = some ⟨.type "dict", none, .dict es n, #[]⟩)
    (kl_SIGNS : PySem.W.KeysLit w.params es.toList)
    (sm_SIGNS : (d == sysModules) = false)
    (fx_SIGNS : PySem.W.nsIn K d "fixed" = some (some (.int (-1) t1)))
    (fr_SIGNS : PySem.W.nsIn K d "free" = some (some (.int 1 t2)))
    (no_SIGNS : ∀ z : Str, ¬ (z = "fixed" ∨ z = "free") → PySem.W.nsIn K d z = some none)
    (mp_Frame : PySem.W.findCls K (.ref C_Frame) (.type "type") "MOST_PIECES" = some (.val (.int 1000000000000000000 t3)))
    (ag_DIGITS : PySem.W.nsIn K mainGlobals "DIGITS" = some (some (.str "0123456789" t4)))
    (ag_MOST : PySem.W.nsIn K mainGlobals "MOST_DIGITS" = some (some (.int 19 t5)))
    (zb : blts.all (absB K) = true) :
    ∃ fd : FuncData, (∀ (s : Shared) (v : Value), BindsTo s fd ⟨[v], []⟩ [("_law_script", v)]) ∧ ∀ base : Heap, K.In base → base.Ns mainGlobals mg → Fk l.prog w K mg base 8 fa fd ["_law_script"] (spLaw K) := by
  have bl := bl_of X G zb
  have F_BadFrame_init := fun_mk (st := s_BadFrame_init) l_BadFrame_init c_BadFrame_init k_BadFrame_init
  have b_BadFrame_init := F_BadFrame_init.binds (ps := ["self", "name"]) fun _ _ _ _ _ _ us hl => match us, hl with | [_, _], _ => rfl
  have F_BadText_init := fun_mk (st := s_BadText_init) l_BadText_init c_BadText_init k_BadText_init
  have b_BadText_init := F_BadText_init.binds (ps := ["self", "index"]) fun _ _ _ _ _ _ us hl => match us, hl with | [_, _], _ => rfl
  have F_number_of := fun_mk (st := s_number_of) l_number_of c_number_of k_number_of
  have b_number_of := F_number_of.binds (ps := ["text"]) fun _ _ _ _ _ _ us hl => match us, hl with | [_], _ => rfl
  have F_Frame_init := fun_mk (st := s_Frame_init) l_Frame_init c_Frame_init k_Frame_init
  have b_Frame_init := F_Frame_init.binds (ps := ["self", "pieces", "front", "back"]) fun _ _ _ _ _ _ us hl => match us, hl with | [_, _, _, _], _ => rfl
  have F_Frame_parse := fun_mk (st := s_Frame_parse) l_Frame_parse c_Frame_parse k_Frame_parse
  have b_Frame_parse := F_Frame_parse.binds (ps := ["cls", "text"]) fun _ _ _ _ _ _ us hl => match us, hl with | [_, _], _ => rfl
  have F_source := fun_mk (st := s_source) l_source c_source k_source
  have b_source := F_source.binds (ps := ["_law_script", "_law_index"]) fun _ _ _ _ _ _ us hl => match us, hl with | [_, _], _ => rfl
  have F_draw := fun_mk (st := s_draw) l_draw c_draw k_draw
  have b_draw := F_draw.binds (ps := ["_law_source_here", "_law_bound"]) fun _ _ _ _ _ _ us hl => match us, hl with | [_, _], _ => rfl
  have F_word := fun_mk (st := s_word) l_word c_word k_word
  have b_word := F_word.binds (ps := ["_law_e"]) fun _ _ _ _ _ _ us hl => match us, hl with | [_], _ => rfl
  have F_told := fun_mk (st := s_told) l_told c_told k_told
  have b_told := F_told.binds (ps := ["_law_pieces", "_law_front", "_law_back"]) fun _ _ _ _ _ _ us hl => match us, hl with | [_, _, _], _ => rfl
  have F_parsed := fun_mk (st := s_parsed) l_parsed c_parsed k_parsed
  have b_parsed := F_parsed.binds (ps := ["_law_text"]) fun _ _ _ _ _ _ us hl => match us, hl with | [_], _ => rfl
  have F_due := fun_mk (st := s_due) l_due c_due k_due
  have b_due := F_due.binds (ps := ["_law_text"]) fun _ _ _ _ _ _ us hl => match us, hl with | [_], _ => rfl
  have F_law := fun_mk (st := s_law) l_law c_law k_law
  have b_law := F_law.binds (ps := ["_law_script"]) fun _ _ _ _ _ _ us hl => match us, hl with | [_], _ => rfl
  have e := hfa.symm.trans (PySem.W.mg_of X G a_law)
  cases e
  refine ⟨PySem.W.fnOf "law" "law" (defArgs s_law) (defBody s_law) (defScope s_law) .none kV_law dc_law pm_law an_law cd_law ct_law, fun s v => .of_eq rfl, fun base _ _ => ?_⟩
  have T : FrT K w mg C_Frame d := ⟨⟨PySem.W.mg_of X G ag_SIGNS, ⟨es, n, lk_SIGNS, kl_SIGNS, sm_SIGNS⟩, ⟨_, fx_SIGNS⟩, ⟨_, fr_SIGNS⟩, no_SIGNS⟩, PySem.W.mg_of X G ac_Frame, ⟨pg_Frame, hd_Frame, po_Frame, sa_Frame⟩, n_Frame_pieces, n_Frame_front, n_Frame_back, n_Frame_front_sign, n_Frame_back_sign, ⟨_, _, ⟨rd_Frame, ga_Frame⟩, ⟨mp_Frame, ⟨_, rfl⟩⟩⟩⟩
  have vb_RopeError : VeB K C_RopeError := ⟨rd_RopeError, gs_RopeError, in_RopeError⟩
  have ox_BadFrame : OexC K C_BadFrame := ⟨⟨_, _, _, _, _, _, _, _, _, _, _, _, _, _, _, lk_BadFrame, rfl⟩, sa_BadFrame, be_BadFrame, ty_BadFrame, kc_BadFrame⟩
  have DX_BadFrame : ExC l.prog w K mg base C_BadFrame "BadFrame" "name" 1 StA := ⟨ox_BadFrame, PySem.W.mg_of X G ac_BadFrame, ⟨_, _, _, a_BadFrame_init, beq_iff_eq.mp i_BadFrame_init, ok_BadFrame_init F_BadFrame_init bl (PySem.W.mg_of X G ac_RopeError) vb_RopeError ox_BadFrame na_BadFrame, b_BadFrame_init⟩⟩
  have ox_BadText : OexC K C_BadText := ⟨⟨_, _, _, _, _, _, _, _, _, _, _, _, _, _, _, lk_BadText, rfl⟩, sa_BadText, be_BadText, ty_BadText, kc_BadText⟩
  have DX_BadText : ExC l.prog w K mg base C_BadText "BadText" "index" 1 LgI := ⟨ox_BadText, PySem.W.mg_of X G ac_BadText, ⟨_, _, _, a_BadText_init, beq_iff_eq.mp i_BadText_init, ok_BadText_init F_BadText_init bl (PySem.W.mg_of X G ac_RopeError) vb_RopeError ox_BadText na_BadText, b_BadText_init⟩⟩
  have XF_BadFrame : ExF K C_BadFrame := ⟨⟨ga_BadFrame, gg_BadFrame, be_BadFrame, hd_BadFrame, ca_BadFrame, cn_Frame, ct_Frame, mo_BadFrame⟩, ⟨ga_BadFrame, gg_BadFrame, be_BadFrame, hd_BadFrame⟩⟩
  have hx_BadFrame : PySem.W.exmOne K (.ref C_BadFrame) (.ref C_RopeError) = some true := exm_of be_RopeError ic_RopeError ty_RopeError sr_BadFrame
  have kf_BadFrame_BadPlace : PySem.W.kitOne K (.ref C_BadFrame) (.ref C_BadPlace) = some false := kit_no ic_BadPlace ty_BadPlace ns_BadFrame_BadPlace ss_BadFrame
  have kf_BadFrame_BadPulse : PySem.W.kitOne K (.ref C_BadFrame) (.ref C_BadPulse) = some false := kit_no ic_BadPulse ty_BadPulse ns_BadFrame_BadPulse ss_BadFrame
  have kf_BadFrame_BadText : PySem.W.kitOne K (.ref C_BadFrame) (.ref C_BadText) = some false := kit_no ic_BadText ty_BadText ns_BadFrame_BadText ss_BadFrame
  have XF_BadText : ExF K C_BadText := ⟨⟨ga_BadText, gg_BadText, be_BadText, hd_BadText, ca_BadText, cn_Frame, ct_Frame, mo_BadText⟩, ⟨ga_BadText, gg_BadText, be_BadText, hd_BadText⟩⟩
  have hx_BadText : PySem.W.exmOne K (.ref C_BadText) (.ref C_RopeError) = some true := exm_of be_RopeError ic_RopeError ty_RopeError sr_BadText
  have kf_BadText_BadFrame : PySem.W.kitOne K (.ref C_BadText) (.ref C_BadFrame) = some false := kit_no ic_BadFrame ty_BadFrame ns_BadText_BadFrame ss_BadText
  have kf_BadText_BadPlace : PySem.W.kitOne K (.ref C_BadText) (.ref C_BadPlace) = some false := kit_no ic_BadPlace ty_BadPlace ns_BadText_BadPlace ss_BadText
  have kf_BadText_BadPulse : PySem.W.kitOne K (.ref C_BadText) (.ref C_BadPulse) = some false := kit_no ic_BadPulse ty_BadPulse ns_BadText_BadPulse ss_BadText
  have ETf : ErT K mg C_BadFrame [("BadPlace", C_BadPlace), ("BadPulse", C_BadPulse), ("BadText", C_BadText)] := ⟨fun x hx => by
    simp at hx
    rcases hx with rfl | rfl | rfl
    · exact PySem.W.mg_of X G ac_BadPlace
    · exact PySem.W.mg_of X G ac_BadPulse
    · exact PySem.W.mg_of X G ac_BadText, fun x hx => by
    simp at hx
    rcases hx with rfl | rfl | rfl
    · exact kf_BadFrame_BadPlace
    · exact kf_BadFrame_BadPulse
    · exact kf_BadFrame_BadText⟩
  have ETt : ErT K mg C_BadText [("BadFrame", C_BadFrame), ("BadPlace", C_BadPlace), ("BadPulse", C_BadPulse)] := ⟨fun x hx => by
    simp at hx
    rcases hx with rfl | rfl | rfl
    · exact PySem.W.mg_of X G ac_BadFrame
    · exact PySem.W.mg_of X G ac_BadPlace
    · exact PySem.W.mg_of X G ac_BadPulse, fun x hx => by
    simp at hx
    rcases hx with rfl | rfl | rfl
    · exact kf_BadText_BadFrame
    · exact kf_BadText_BadPlace
    · exact kf_BadText_BadPulse⟩
  have W : WdT K mg C_BadFrame C_BadText C_BadPlace C_BadPulse C_RopeError := ⟨ETf, ETt, XF_BadFrame, XF_BadText, na_BadFrame, na_BadText, (PySem.W.mg_of X G ac_RopeError), hx_BadFrame, hx_BadText⟩
  have NT : NumT mg := ⟨⟨_, PySem.W.mg_of X G ag_DIGITS⟩, ⟨_, PySem.W.mg_of X G ag_MOST⟩⟩
  have DF : Cl l.prog w K mg base C_Frame "Frame" 3 ["self", "pieces", "front", "back"] (spFrG C_Frame C_BadFrame) := ⟨_, _, ok_Frame_initG F_Frame_init bl T DX_BadFrame, b_Frame_init, ⟨mk_Frame, a_Frame_init, i_Frame_init, kc_Frame⟩, (PySem.W.mg_of X G ac_Frame)⟩
  have DN : Df l.prog w K mg base "number_of" 1 ["text"] spNum := ⟨_, _, ok_number F_number_of bl NT, b_number_of, k_number_of, PySem.W.mg_of X G a_number_of⟩
  have CP : Cm l.prog w K mg base C_Frame "parse" 5 ["cls", "text"] (spParseG C_Frame C_BadText) := ⟨_, _, _, _, ok_parseG F_Frame_parse bl T DX_BadText DN DF, b_Frame_parse, ⟨rd_Frame, ga_Frame⟩, ⟨a_Frame_parse, r_Frame_parse, i_Frame_parse⟩⟩
  have DW : DfH l.prog w K mg base "_law_word" 1 "_law_e" (spWord C_BadFrame C_BadText) := ⟨_, _, ok_word F_word bl W, fun s u => .of_eq rfl, k_word, PySem.W.mg_of X G a_word⟩
  have D0 : Df l.prog w K mg base "_law_source" 1 ["_law_script", "_law_index"] (spSource K) := ⟨_, _, ok_source F_source bl, b_source, k_source, PySem.W.mg_of X G a_source⟩
  have D1 : Df l.prog w K mg base "_law_draw" 1 ["_law_source_here", "_law_bound"] spDraw := ⟨_, _, ok_draw F_draw bl, b_draw, k_draw, PySem.W.mg_of X G a_draw⟩
  have D2 : Df l.prog w K mg base "_law_told" 5 ["_law_pieces", "_law_front", "_law_back"] spTold := ⟨_, _, ok_told F_told bl W DW DF, b_told, k_told, PySem.W.mg_of X G a_told⟩
  have D3 : Df l.prog w K mg base "_law_parsed" 7 ["_law_text"] spParsed := ⟨_, _, ok_parsed F_parsed bl T W DW CP, b_parsed, k_parsed, PySem.W.mg_of X G a_parsed⟩
  have D4 : Df l.prog w K mg base "_law_due" 1 ["_law_text"] spDue := ⟨_, _, ok_due F_due bl, b_due, k_due, PySem.W.mg_of X G a_due⟩
  exact ok_law F_law bl D0 D1 D2 D3 D4

end
end U
open PySem PySem.W PyProof.Rows in
set_option maxRecDepth 100000 in
set_option maxHeartbeats 0 in
theorem PySem.Challenge.cw_pulserope_k03_invalid_frames_holds : PySem.Challenge.rw_pulserope_k03_invalid_frames.Holds := by
  w_on; o_law; k_head; (case hw => w_witness2)
  k_fill
  refine U.walk_G (l := PySem.Challenge.rw_pulserope_k03_invalid_frames) (k := 8) (x := "_law_script") (sp := fun w => U.spLaw _) rfl rfl ⟨rfl, by decide, by decide⟩ (fun w h Y => PySem.W.kIn_of Y) ?F (fun w H a ns hl hs => ⟨a, ns, rfl, hs, hl, fun _ => rfl⟩)
  case F =>
    intro w mg fa h KX G hmg
    refine' U.all_mk KX G hmg ?ac_Frame ?pg_Frame ?hd_Frame ?po_Frame ?sa_Frame ?mk_Frame ?kc_Frame ?rd_Frame ?ga_Frame ?ac_RopeError ?ty_RopeError ?ic_RopeError ?be_RopeError ?rd_RopeError ?gs_RopeError ?in_RopeError ?ac_BadFrame ?lk_BadFrame ?sa_BadFrame ?be_BadFrame ?ty_BadFrame ?kc_BadFrame ?sr_BadFrame ?na_BadFrame ?ac_BadText ?lk_BadText ?sa_BadText ?be_BadText ?ty_BadText ?kc_BadText ?sr_BadText ?na_BadText ?ga_BadFrame ?gg_BadFrame ?hd_BadFrame ?ca_BadFrame ?mo_BadFrame ?ss_BadFrame ?ga_BadText ?gg_BadText ?hd_BadText ?ca_BadText ?mo_BadText ?ss_BadText ?ic_BadFrame ?ic_BadText ?ac_BadPlace ?ty_BadPlace ?ic_BadPlace ?ac_BadPulse ?ty_BadPulse ?ic_BadPulse ?ns_BadFrame_BadPlace ?ns_BadFrame_BadPulse ?ns_BadFrame_BadText ?ns_BadText_BadFrame ?ns_BadText_BadPlace ?ns_BadText_BadPulse ?cn_Frame ?ct_Frame ?a_BadFrame_init ?i_BadFrame_init ?l_BadFrame_init ?c_BadFrame_init ?k_BadFrame_init ?a_BadText_init ?i_BadText_init ?l_BadText_init ?c_BadText_init ?k_BadText_init ?a_number_of ?l_number_of ?c_number_of ?k_number_of ?a_Frame_init ?i_Frame_init ?l_Frame_init ?c_Frame_init ?k_Frame_init ?a_Frame_parse ?r_Frame_parse ?i_Frame_parse ?l_Frame_parse ?c_Frame_parse ?k_Frame_parse ?a_source ?l_source ?c_source ?k_source ?a_draw ?l_draw ?c_draw ?k_draw ?a_word ?l_word ?c_word ?k_word ?a_told ?l_told ?c_told ?k_told ?a_parsed ?l_parsed ?c_parsed ?k_parsed ?a_due ?l_due ?c_due ?k_due ?a_law ?l_law ?c_law ?k_law ?n_Frame_pieces ?n_Frame_front ?n_Frame_back ?n_Frame_front_sign ?n_Frame_back_sign ?ag_SIGNS ?lk_SIGNS ?kl_SIGNS ?sm_SIGNS ?fx_SIGNS ?fr_SIGNS ?no_SIGNS ?mp_Frame ?ag_DIGITS ?ag_MOST ?zb
    (case ac_Frame => k_is)
    (case pg_Frame => k_is)
    (case hd_Frame => k_is)
    (case po_Frame => k_is)
    (case sa_Frame => k_is)
    (case mk_Frame => k_is)
    (case kc_Frame => k_is)
    (case rd_Frame => k_is)
    (case ga_Frame => k_is)
    (case ac_RopeError => k_is)
    (case ty_RopeError => k_is)
    (case ic_RopeError => k_is)
    (case be_RopeError => k_is)
    (case rd_RopeError => k_is)
    (case gs_RopeError => k_is)
    (case in_RopeError => k_is)
    (case ac_BadFrame => k_is)
    (case lk_BadFrame => k_is)
    (case sa_BadFrame => k_is)
    (case be_BadFrame => k_is)
    (case ty_BadFrame => k_is)
    (case kc_BadFrame => k_is)
    (case sr_BadFrame => first | rfl | k_is)
    (case na_BadFrame => k_is)
    (case ac_BadText => k_is)
    (case lk_BadText => k_is)
    (case sa_BadText => k_is)
    (case be_BadText => k_is)
    (case ty_BadText => k_is)
    (case kc_BadText => k_is)
    (case sr_BadText => first | rfl | k_is)
    (case na_BadText => k_is)
    (case ga_BadFrame => k_is)
    (case gg_BadFrame => k_is)
    (case hd_BadFrame => k_is)
    (case ca_BadFrame => k_is)
    (case mo_BadFrame => k_is)
    (case ss_BadFrame => first | rfl | k_is)
    (case ga_BadText => k_is)
    (case gg_BadText => k_is)
    (case hd_BadText => k_is)
    (case ca_BadText => k_is)
    (case mo_BadText => k_is)
    (case ss_BadText => first | rfl | k_is)
    (case ic_BadFrame => k_is)
    (case ic_BadText => k_is)
    (case ac_BadPlace => k_is)
    (case ty_BadPlace => k_is)
    (case ic_BadPlace => k_is)
    (case ac_BadPulse => k_is)
    (case ty_BadPulse => k_is)
    (case ic_BadPulse => k_is)
    (case ns_BadFrame_BadPlace => first | rfl | k_is)
    (case ns_BadFrame_BadPulse => first | rfl | k_is)
    (case ns_BadFrame_BadText => first | rfl | k_is)
    (case ns_BadText_BadFrame => first | rfl | k_is)
    (case ns_BadText_BadPlace => first | rfl | k_is)
    (case ns_BadText_BadPulse => first | rfl | k_is)
    (case cn_Frame => k_is)
    (case ct_Frame => k_is)
    (case a_BadFrame_init => k_is)
    (case i_BadFrame_init => k_is)
    (case l_BadFrame_init => k_is)
    (case c_BadFrame_init => k_is)
    (case k_BadFrame_init => k_is)
    (case a_BadText_init => k_is)
    (case i_BadText_init => k_is)
    (case l_BadText_init => k_is)
    (case c_BadText_init => k_is)
    (case k_BadText_init => k_is)
    (case a_number_of => k_is)
    (case l_number_of => k_is)
    (case c_number_of => k_is)
    (case k_number_of => k_is)
    (case a_Frame_init => k_is)
    (case i_Frame_init => k_is)
    (case l_Frame_init => k_is)
    (case c_Frame_init => k_is)
    (case k_Frame_init => k_is)
    (case a_Frame_parse => k_is)
    (case r_Frame_parse => exact ⟨_, by k_is⟩)
    (case i_Frame_parse => k_is)
    (case l_Frame_parse => k_is)
    (case c_Frame_parse => k_is)
    (case k_Frame_parse => k_is)
    (case a_source => k_is)
    (case l_source => k_is)
    (case c_source => k_is)
    (case k_source => k_is)
    (case a_draw => k_is)
    (case l_draw => k_is)
    (case c_draw => k_is)
    (case k_draw => k_is)
    (case a_word => k_is)
    (case l_word => k_is)
    (case c_word => k_is)
    (case k_word => k_is)
    (case a_told => k_is)
    (case l_told => k_is)
    (case c_told => k_is)
    (case k_told => k_is)
    (case a_parsed => k_is)
    (case l_parsed => k_is)
    (case c_parsed => k_is)
    (case k_parsed => k_is)
    (case a_due => k_is)
    (case l_due => k_is)
    (case c_due => k_is)
    (case k_due => k_is)
    (case a_law => k_is)
    (case l_law => k_is)
    (case c_law => k_is)
    (case k_law => k_is)
    (case n_Frame_pieces => k_is)
    (case n_Frame_front => k_is)
    (case n_Frame_back => k_is)
    (case n_Frame_front_sign => k_is)
    (case n_Frame_back_sign => k_is)
    (case ag_SIGNS => k_is)
    (case lk_SIGNS => k_is)
    (case kl_SIGNS => exact ⟨⟨_, _, rfl, rfl⟩, ⟨_, _, rfl, rfl⟩, trivial⟩)
    (case sm_SIGNS => first | rfl | decide)
    (case fx_SIGNS => k_is)
    (case fr_SIGNS => k_is)
    (case no_SIGNS => exact U.sg_no (by k_is) ⟨_, rfl⟩ ⟨_, rfl⟩)
    (case mp_Frame => k_is)
    (case ag_DIGITS => k_is)
    (case ag_MOST => k_is)
    (case zb => first | k_is | kernel_rfl | rfl)
#print axioms PySem.Challenge.cw_pulserope_k03_invalid_frames_holds
