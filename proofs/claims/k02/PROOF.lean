import PyProof.Rows.All
import Wide.All
import OpenK.AllK
import Wide.FinOn
import HandS.ForMost
import HandS.ForSpec
import HandS.Wide
import HandS.WideBits
import HandS.TupAny
import HandS.FStr
import HandS.RaiseMore
import HandS.Property
import HandS.ClsMeth
import HandS.Star
import KE.KFmtOwn
import PyProof.ReprRoads
import PyProof.InstNe
import HandS.IsInst
import HandS.Iter
import HandS.Comp
import PySem.Challenge.RW_pulserope_k02_frames
set_option Elab.async false
set_option linter.all false
set_option maxRecDepth 100000
set_option maxHeartbeats 0
/-! U0: the judgements as weakest preconditions over the text (We .. Wi), rules for each construct. -/
namespace U
open PySem PySem.Spec L2
open PyProof.Rows hiding St

/-! ### the judgements -/
def We (X : Cx) (e : Expr) (σ : St) (H : Hp) (Q : VK) : Prop := ∀ (pins : List (Addr × Obj)) (s : Shared), Inv X pins σ H s → wpAny (model X.prog X.w) X.A (eval e X.env) (EP X pins σ Q) X.xe s
def Wt (X : Cx) (e : Expr) (σ : St) (H : Hp) (Q : Bool → Hp → Prop) : Prop := ∀ (pins : List (Addr × Obj)) (s : Shared), Inv X pins σ H s → wpAny (model X.prog X.w) X.A (isTrue e X.env (eval e X.env)) (TP X pins σ Q) X.xe s
def Ww (X : Cx) (e : Expr) (σ : St) (H : Hp) (Q : Bool → Hp → Prop) : Prop := ∀ (whole : Sem Value) (pins : List (Addr × Obj)) (s : Shared), Inv X pins σ H s → wpAny (model X.prog X.w) X.A (isTrue e X.env whole) (TP X pins σ Q) X.xe s
def Wa (X : Cx) (es : List Expr) (σ : St) (H : Hp) (Q : List V → Hp → Prop) : Prop := ∀ (pos : Pos) (pins : List (Addr × Obj)) (s : Shared), Inv X pins σ H s → wpAny (model X.prog X.w) X.A (spliced (backTo pos (starEach es X.env))) (AP X pins σ Q) X.xe s
def Ws (X : Cx) (st : Stmt) (D : Ends) (σ : St) (H : Hp) : Prop := ∀ (pins : List (Addr × Obj)) (s : Shared), Inv X pins σ H s → wpAny (model X.prog X.w) X.A (exec st X.env) (SP X pins D) X.xe s
def Wss (X : Cx) (st : List Stmt) (D : Ends) (σ : St) (H : Hp) : Prop := ∀ (pins : List (Addr × Obj)) (s : Shared), Inv X pins σ H s → wpAny (model X.prog X.w) X.A (execs st X.env) (SP X pins D) X.xe s
def Wg (X : Cx) (tg : Expr) (v : V) (σ : St) (H : Hp) (Q : St → Hp → Prop) : Prop := ∀ (pins : List (Addr × Obj)) (s : Shared) (u : Value), Inv X pins σ H s → RelV v u →
  wpAny (model X.prog X.w) X.A (assign tg X.env u) (fun _ s' => ∃ σ' H', Inv X pins σ' H' s' ∧ Q σ' H') X.xe s
def Wgs (X : Cx) (ts : List Expr) (vs : List V) (σ : St) (H : Hp) (Q : St → Hp → Prop) : Prop := ∀ (pins : List (Addr × Obj)) (s : Shared) (us : List Value), Inv X pins σ H s → Vals vs us →
  wpAny (model X.prog X.w) X.A (assignInOrder ((assignEach ts X.env).map (·.2)) us) (fun _ s' => ∃ σ' H', Inv X pins σ' H' s' ∧ Q σ' H') X.xe s
def Wi (X : Cx) (tg iter : Expr) (σ : St) (H : Hp) (R : It → Hp → Prop) : Prop := ∀ (pins : List (Addr × Obj)) (s : Shared), Inv X pins σ H s →
  wpAny (model X.prog X.w) X.A (eval iter X.env) (fun v s1 => wpAny (model X.prog X.w) X.A (pyIter v) (PIE X pins σ tg R) X.xe s1) X.xe s
def Wop (X : Cx) (f : Value → Value → Sem Value) (x y : V) (H : Hp) (Q : VK) : Prop := ∀ (pins : List (Addr × Obj)) (s : Shared) (σ : St) (v u : Value), Inv X pins σ H s → RelV x v → RelV y u → wpAny (model X.prog X.w) X.A (f v u) (EP X pins σ Q) X.xe s
def Wun (X : Cx) (f : Value → Sem Value) (x : V) (H : Hp) (Q : VK) : Prop := ∀ (pins : List (Addr × Obj)) (s : Shared) (σ : St) (v : Value), Inv X pins σ H s → RelV x v → wpAny (model X.prog X.w) X.A (f v) (EP X pins σ Q) X.xe s
def Wcall (X : Cx) (f : Value) (xs : List V) (H : Hp) (Q : VK) : Prop := ∀ (pins : List (Addr × Obj)) (s : Shared) (σ : St) (us : List Value), Inv X pins σ H s → Vals xs us → wpAny (model X.prog X.w) X.A (call f us) (EP X pins σ Q) X.xe s
def Wix (X : Cx) (x y : V) (H : Hp) (Q : VK) : Prop := ∀ (value slice : Expr) (pins : List (Addr × Obj)) (s : Shared) (σ : St) (v u : Value), Inv X pins σ H s → RelV x v → RelV y u →
  subscripted slice false v u = operate [v, u] (getItem v u) → wpAny (model X.prog X.w) X.A (subscriptTail value slice v u) (EP X pins σ Q) X.xe s
def Wset (X : Cx) (o i v : V) (H : Hp) (Q : Hp → Prop) : Prop := ∀ (pins : List (Addr × Obj)) (s : Shared) (σ : St) (ov iv u : Value), Inv X pins σ H s → RelV o ov → RelV i iv → RelV v u →
  wpAny (model X.prog X.w) X.A (setItem ov iv u) (fun _ s' => ∃ H', Inv X pins σ H' s' ∧ Q H') X.xe s

section
variable {X : Cx}
theorem peU {e : Expr} : PE X e (We X e) := ⟨fun pins s _ _ _ I h => h pins s I⟩
theorem ptU {e : Expr} : PT X e (Wt X e) := ⟨fun pins s _ _ _ I h => h pins s I⟩
theorem pwU {e : Expr} : PW X e (Ww X e) := ⟨fun wh pins s _ _ _ I h => h wh pins s I⟩
theorem paU {es : List Expr} : PA X es (Wa X es) := ⟨fun pos pins s _ _ _ I h => h pos pins s I⟩
theorem psU {st : Stmt} : PS X st (Ws X st) := ⟨fun pins s _ _ _ I h => h pins s I⟩
theorem pssU {st : List Stmt} : PSs X st (Wss X st) := ⟨fun pins s _ _ _ I h => h pins s I⟩
theorem pgU {tg : Expr} : PG X tg (Wg X tg) := ⟨fun pins s _ _ _ u _ I r h => h pins s u I r⟩
theorem pgsU {ts : List Expr} : PGs X ts (Wgs X ts) := ⟨fun pins s _ _ _ us _ I r h => h pins s us I r⟩
theorem piU {tg iter : Expr} : PI X tg iter (Wi X tg iter) := ⟨fun pins s _ _ _ I h => h pins s I⟩
theorem opU {f : Value → Value → Sem Value} : OpR X f (Wop X f) := fun pins s σ _ _ _ v u _ I r1 r2 h => h pins s σ v u I r1 r2
theorem unU {f : Value → Sem Value} : UnR X f (Wun X f) := fun pins s σ _ _ v _ I r1 h => h pins s σ v I r1
theorem callU {f : Value} : CallR X f (Wcall X f) := fun pins s σ _ _ us _ I r h => h pins s σ us I r
theorem ixU : IxR X (Wix X) := fun value slice pins s σ _ _ _ v u _ I r1 r2 h hs => h value slice pins s σ v u I r1 r2 hs
theorem setU : PSet X (Wset X) := fun pins s σ _ _ _ _ ov iv u _ I r1 r2 r3 h => h pins s σ ov iv u I r1 r2 r3

theorem ofPE {e : Expr} {t : TE} {σ : St} {H : Hp} {Q : VK} (p : PE X e t) (h : t σ H Q) : We X e σ H Q := fun pins s I => p.run pins s σ H Q I h
theorem ofPT {e : Expr} {t : TT} {σ : St} {H : Hp} {Q : Bool → Hp → Prop} (p : PT X e t) (h : t σ H Q) : Wt X e σ H Q := fun pins s I => p.run pins s σ H Q I h
theorem ofPW {e : Expr} {t : TT} {σ : St} {H : Hp} {Q : Bool → Hp → Prop} (p : PW X e t) (h : t σ H Q) : Ww X e σ H Q := fun wh pins s I => p.run wh pins s σ H Q I h
theorem ofPA {e : List Expr} {t : TA} {σ : St} {H : Hp} {Q : List V → Hp → Prop} (p : PA X e t) (h : t σ H Q) : Wa X e σ H Q := fun pos pins s I => p.run pos pins s σ H Q I h
theorem ofPS {st : Stmt} {t : TS} {D : Ends} {σ : St} {H : Hp} (p : PS X st t) (h : t D σ H) : Ws X st D σ H := fun pins s I => p.run pins s σ H D I h
theorem ofPSs {st : List Stmt} {t : TS} {D : Ends} {σ : St} {H : Hp} (p : PSs X st t) (h : t D σ H) : Wss X st D σ H := fun pins s I => p.run pins s σ H D I h
theorem ofPG {e : Expr} {t : TG} {v : V} {σ : St} {H : Hp} {Q : St → Hp → Prop} (p : PG X e t) (h : t v σ H Q) : Wg X e v σ H Q := fun pins s u I r => p.run pins s σ H v u Q I r h
theorem ofPGs {e : List Expr} {t : TGs} {v : List V} {σ : St} {H : Hp} {Q : St → Hp → Prop} (p : PGs X e t) (h : t v σ H Q) : Wgs X e v σ H Q := fun pins s u I r => p.run pins s σ H v u Q I r h
theorem ofPI {tg it : Expr} {t : TI} {σ : St} {H : Hp} {R : It → Hp → Prop} (p : PI X tg it t) (h : t σ H R) : Wi X tg it σ H R := fun pins s I => p.run pins s σ H R I h
theorem ofOp {f : Value → Value → Sem Value} {r : R2} {x y : V} {H : Hp} {Q : VK} (p : OpR X f r) (h : r x y H Q) : Wop X f x y H Q := fun pins s σ v u I r1 r2 => p pins s σ H x y v u Q I r1 r2 h
theorem ofUn {f : Value → Sem Value} {r : V → Hp → VK → Prop} {x : V} {H : Hp} {Q : VK} (p : UnR X f r) (h : r x H Q) : Wun X f x H Q := fun pins s σ v I r1 => p pins s σ H x v Q I r1 h
theorem ofCall {f : Value} {r : List V → Hp → VK → Prop} {xs : List V} {H : Hp} {Q : VK} (p : CallR X f r) (h : r xs H Q) : Wcall X f xs H Q := fun pins s σ us I rr => p pins s σ H xs us Q I rr h
theorem ofIx {r : R2} {x y : V} {H : Hp} {Q : VK} (p : IxR X r) (h : r x y H Q) : Wix X x y H Q := fun value slice pins s σ v u I r1 r2 hs => p value slice pins s σ H x y v u Q I r1 r2 h hs
theorem ofSet {r : TSet} {o i v : V} {H : Hp} {Q : Hp → Prop} (p : PSet X r) (h : r o i v H Q) : Wset X o i v H Q := fun pins s σ ov iv u I r1 r2 r3 => p pins s σ H o i v ov iv u Q I r1 r2 r3 h
end

/-! ### the context of a body -/
/-- names of builtins -/
def blts : List Str := ["len", "range", "sorted", "max", "min", "tuple", "list", "dict", "int", "str", "repr", "isinstance", "abs", "enumerate", "all", "any", "sum", "zip", "set", "bool", "type", "reversed", "divmod", "map", "pow", "ValueError"]
def visB (ns : List (Str × NameKind)) (x : Str) : Bool := ns.lookup x == some .local || ns.lookup x == some .cell || ns.lookup x == some .free
def asgB (ns : List (Str × NameKind)) (x : Str) : Bool := ns.lookup x == some .local || ns.lookup x == some .cell
theorem visB_of {ns : List (Str × NameKind)} {x : Str} (h : visB ns x = true) : ns.lookup x = some .local ∨ ns.lookup x = some .cell ∨ ns.lookup x = some .free := by
  unfold visB at h
  simp only [Bool.or_eq_true, beq_iff_eq] at h
  rcases h with (h | h) | h <;> simp [h]
theorem asgB_of {ns : List (Str × NameKind)} {x : Str} (h : asgB ns x = true) : ns.lookup x = some .local ∨ ns.lookup x = some .cell := by
  unfold asgB at h
  simp only [Bool.or_eq_true, beq_iff_eq] at h
  exact h
/-- a table of names by slots (none: not seen here) fits -/
def slOk (f : Str → Bool) : List Str → List (Option Str) → Bool
  | _, [] => true
  | N, none :: V => slOk f N.tail V
  | N, some x :: V => N.head? == some x && f x && slOk f N.tail V
theorem slOk_of {f : Str → Bool} : ∀ {N : List Str} {V : List (Option Str)} {i : Nat} {x : Str}, slOk f N V = true → V[i]? = some (some x) → N[i]? = some x ∧ f x = true
  | N, none :: V, 0, x, _, e => by simp at e
  | N, some y :: V, 0, x, h, e => by
    have e' : y = x := by simpa using e
    subst e'
    unfold slOk at h
    simp only [Bool.and_eq_true, beq_iff_eq] at h
    refine ⟨?_, h.1.2⟩
    cases N with
    | nil => simp at h
    | cons z N => simpa using h.1.1
  | N, none :: V, i + 1, x, h, e => by
    have q := slOk_of (i := i) (x := x) (show slOk f N.tail V = true from h) (by simpa using e)
    cases N with
    | nil => simp at q
    | cons z N => simpa using q
  | N, some y :: V, i + 1, x, h, e => by
    have h' : slOk f N.tail V = true := by
      unfold slOk at h
      simp only [Bool.and_eq_true] at h
      exact h.2
    have q := slOk_of (i := i) (x := x) h' (by simpa using e)
    cases N with
    | nil => simp at q
    | cons z N => simpa using q
def visC (ns : List (Str × NameKind)) (x : Str) : Bool := visB ns x && !(x == ("__debug__" : Str)) && !(x == ("__classdict__" : Str))
def glB (ns : List (Str × NameKind)) (x : Str) : Bool := ns.lookup x == some .globalImplicit && !(x == ("__debug__" : Str))
def okAll (N : List Str) (ns : List (Str × NameKind)) (VL AL : List (Option Str)) (GL : List Str) : Bool := slOk (visC ns) N VL && slOk (asgB ns) N AL && GL.all (glB ns)
structure CxI (P : Program) (w : World) (K : PySem.W.Frag) (mg : Str → Option Value) (base : Heap) (k : Nat) (VL AL : List (Option Str)) (GL : List Str) (E : XK) (X : Cx) : Prop where
  eP : X.prog = P
  ew : X.w = w
  eK : X.K = K
  em : X.mg = mg
  eb : X.base = base
  nd : X.N.Nodup
  ok : okAll X.N X.env.scope.names VL AL GL = true
  fn : ∀ x, X.fn x = true ∨ some x ∉ AL ∨ X.env.scope.names.lookup x = some .local
  room : Room k X.A
  gd : X.A.guards = some []
  calm : X.calm = true
  pas : PassesOwn (model X.prog X.w) X.A X.env X.xe
  tk : Takes X (fun cls d _ H => E cls d H)
  bl : ∀ x ∈ blts, mg x = none

/-- the name x stands in a slot that holds v -/
inductive SlotIs (x : Str) (v : V) : List (Option Str) → St → Prop
  | h {N σ} : SlotIs x v (some x :: N) (some v :: σ)
  | t {y o N σ} : SlotIs x v N σ → SlotIs x v (y :: N) (o :: σ)
inductive SetAt (x : Str) (v : V) : List (Option Str) → St → St → Prop
  | h {o N σ} : SetAt x v (some x :: N) (o :: σ) (some v :: σ)
  | t {y o N σ σ'} : SetAt x v N σ σ' → SetAt x v (y :: N) (o :: σ) (o :: σ')
inductive In (x : Str) : List Str → Prop
  | h {N} : In x (x :: N)
  | t {y N} : In x N → In x (y :: N)
theorem In.mem {x : Str} {N : List Str} (h : In x N) : x ∈ N := by
  induction h with
  | h => exact List.mem_cons_self
  | t _ ih => exact List.mem_cons_of_mem _ ih
theorem SlotIs.ix {x : Str} {v : V} {N : List (Option Str)} {σ : St} (h : SlotIs x v N σ) : ∃ i : Nat, N[i]? = some (some x) ∧ σ[i]? = some (some v) := by
  induction h with
  | h => exact ⟨0, rfl, rfl⟩
  | t _ ih =>
    obtain ⟨i, a, b⟩ := ih
    exact ⟨i + 1, by simpa using a, by simpa using b⟩
theorem SetAt.ix {x : Str} {v : V} {N : List (Option Str)} {σ σ' : St} (h : SetAt x v N σ σ') : ∃ i : Nat, N[i]? = some (some x) ∧ σ' = σ.set i (some v) := by
  induction h with
  | h => exact ⟨0, rfl, rfl⟩
  | t _ ih =>
    obtain ⟨i, a, b⟩ := ih
    exact ⟨i + 1, by simpa using a, by subst b; rfl⟩

section
variable {P : Program} {w : World} {K : PySem.W.Frag} {mg : Str → Option Value} {base : Heap} {k : Nat} {VL AL : List (Option Str)} {GL : List Str} {E : XK} {X : Cx} {σ : St} {H : Hp} {Q : VK} {pos : Pos}

theorem CxI.gl (cx : CxI P w K mg base k VL AL GL E X) {x : Str} (h : In x GL) : Gl X x ∧ (x == ("__debug__" : Str)) = false := by
  have q := cx.ok
  unfold okAll at q
  simp only [Bool.and_eq_true] at q
  have z := List.all_eq_true.mp q.2 x h.mem
  unfold glB at z
  simp only [Bool.and_eq_true, beq_iff_eq, Bool.not_eq_true'] at z
  exact z
theorem CxI.var (cx : CxI P w K mg base k VL AL GL E X) {x : Str} {v : V} (h : SlotIs x v VL σ) : ∃ i : Nat, X.N[i]? = some x ∧ σ[i]? = some (some v) ∧ Vis X.env.scope x ∧ (x == ("__debug__" : Str)) = false ∧ (x == ("__classdict__" : Str)) = false := by
  obtain ⟨i, a, b⟩ := h.ix
  have q := cx.ok
  unfold okAll at q
  simp only [Bool.and_eq_true] at q
  obtain ⟨c, d⟩ := slOk_of q.1.1 a
  unfold visC at d
  simp only [Bool.and_eq_true, Bool.not_eq_true'] at d
  exact ⟨i, c, b, visB_of d.1.1, d.1.2, d.2⟩
theorem CxI.asg (cx : CxI P w K mg base k VL AL GL E X) {x : Str} {v : V} {σ' : St} (h : SetAt x v AL σ σ') : ∃ i : Nat, X.N[i]? = some x ∧ σ' = σ.set i (some v) ∧ Loc X.env.scope x ∧ (X.fn x = true ∨ X.env.scope.names.lookup x = some .local) := by
  obtain ⟨i, a, b⟩ := h.ix
  have q := cx.ok
  unfold okAll at q
  simp only [Bool.and_eq_true] at q
  obtain ⟨c, d⟩ := slOk_of q.1.2 a
  have z := asgB_of d
  refine ⟨i, c, b, z, ?_⟩
  rcases cx.fn x with f | f | f
  · exact .inl f
  · exact absurd (List.mem_of_getElem? a) f
  · exact .inr f
theorem CxI.bltn (cx : CxI P w K mg base k VL AL GL E X) {x : Str} (h : x ∈ blts) : X.mg x = none := by
  rw [cx.em]; exact cx.bl x h

/-! ### expressions -/
theorem w_int {i : Int} {j} (h : Q (.int i) H) : We X (.Constant (.int i) j pos) σ H Q := ofPE pe_int h
theorem w_str {x : Str} {j} (h : Q (.str x) H) : We X (.Constant (.str x) j pos) σ H Q := ofPE pe_str h
theorem w_bl {b : Bool} {j} (h : Q (.bl b) H) : We X (.Constant (.bool b) j pos) σ H Q := ofPE pe_bl h
theorem w_non {j} (h : Q .non H) : We X (.Constant .none j pos) σ H Q := ofPE pe_non h
theorem w_var (cx : CxI P w K mg base k VL AL GL E X) {x : Str} {v : V} (hs : SlotIs x v VL σ) (h : Q v H) : We X (.Name x pos) σ H Q := by
  obtain ⟨i, a, b, c, d, e⟩ := cx.var hs
  exact ofPE (pe_var a c d e) ⟨v, b, h⟩
theorem w_glob (cx : CxI P w K mg base k VL AL GL E X) {x : Str} {v : V} {u : Value} (hg : In x GL) (hm : mg x = some u) (r : RelV v u) (h : Q v H) :
    We X (.Name x pos) σ H Q := ofPE (pe_glob (cx.gl hg).1 (by rw [cx.em]; exact hm) r (cx.gl hg).2) h
theorem w_bin {a b : Expr} {op : Operator} (h : We X a σ H fun x H1 => We X b σ H1 fun y H2 => Wop X (binaryOp op) x y H2 Q) : We X (.BinOp a op b pos) σ H Q := ofPE (pe_op opU peU peU) h
theorem w_un {a : Expr} {op : UnaryOp} (h : We X a σ H fun x H1 => Wun X (unaryOp op) x H1 Q) : We X (.UnaryOp op a pos) σ H Q := ofPE (pe_un unU peU) h
theorem w_cmp {a b : Expr} {op : CmpOp} (h : We X a σ H fun x H1 => We X b σ H1 fun y H2 => Wop X (compareOp op) x y H2 Q) (hm : behindInMarks op b = false := by kernel_rfl) : We X (.Compare a [op] [b] pos) σ H Q :=
  ofPE (pe_cmpR opU peU peU hm) h
theorem t_cmp {a b : Expr} {op : CmpOp} {Q : Bool → Hp → Prop} (h : We X a σ H fun x H1 => We X b σ H1 fun y H2 => Wop X (compareOp op) x y H2 fun z H3 => ∃ c, z = .bl c ∧ Q c H3) (hm : behindInMarks op b = false := by kernel_rfl) : Wt X (.Compare a [op] [b] pos) σ H Q :=
  ofPT (pt_cmpR opU peU peU hm) h
theorem w_chain {a b c : Expr} {op op' : CmpOp} (h : We X a σ H fun x H1 => We X b σ H1 fun y H2 => Wop X (compareOp op) x y H2 fun z H3 => ∃ k, z = .bl k ∧ (if k = true then We X c σ H3 fun w' H4 => Wop X (compareOp op') y w' H4 Q else Q (.bl false) H3))
    (hm : lastMarks [op, op'] [b, c] = false := by kernel_rfl) : We X (.Compare a [op, op'] [b, c] pos) σ H Q := ofPE (pe_chain opU opU peU peU peU hm) h
theorem t_chain {a b c : Expr} {op op' : CmpOp} {Q : Bool → Hp → Prop} (h : We X a σ H fun x H1 => We X b σ H1 fun y H2 => Wop X (compareOp op) x y H2 fun z H3 => ∃ k, z = .bl k ∧ (if k = true then We X c σ H3 fun w' H4 => Wop X (compareOp op') y w' H4 fun z H5 => ∃ c, z = .bl c ∧ Q c H5 else ∃ c, V.bl false = .bl c ∧ Q c H3))
    (hm : lastMarks [op, op'] [b, c] = false := by kernel_rfl) : Wt X (.Compare a [op, op'] [b, c] pos) σ H Q := ofPT (pt_chain opU opU peU peU peU hm) h
/-- tests -/
theorem t_val {e : Expr} {Q : Bool → Hp → Prop} (h : We X e σ H fun x H1 => ∃ c, x = .bl c ∧ Q c H1) (he : ∀ whole, isTrue e X.env whole = (do let v ← whole; standAt e.pos; holding [v] (truthy v)) := by exact (fun _ => by kernel_rfl)) : Wt X e σ H Q := ofPT (pt_val peU he) h
theorem t_truth {e : Expr} {Q : Bool → Hp → Prop} (h : We X e σ H fun x H1 => ∃ c, TruV X.K x H1 c ∧ Q c H1) (he : ∀ whole, isTrue e X.env whole = (do let v ← whole; standAt e.pos; holding [v] (truthy v)) := by exact (fun _ => by kernel_rfl)) : Wt X e σ H Q := ofPT (pt_truth peU he) h
theorem t_not {e : Expr} {Q : Bool → Hp → Prop} (h : Wt X e σ H fun c H1 => Q (!c) H1) : Wt X (.UnaryOp .Not e pos) σ H Q := ofPT (pt_not ptU) h
theorem t_ww {e : Expr} {Q : Bool → Hp → Prop} (h : Ww X e σ H Q) : Wt X e σ H Q := ofPT (PW.pt pwU) h
theorem ww_and {a b : Expr} {r : List Expr} {Q : Bool → Hp → Prop} (h : Wt X a σ H fun c H1 => if c = true then Ww X (.BoolOp .And (b :: r) pos) σ H1 Q else Q false H1) : Ww X (.BoolOp .And (a :: b :: r) pos) σ H Q := ofPW (pw_and ptU pwU) h
theorem ww_or {a b : Expr} {r : List Expr} {Q : Bool → Hp → Prop} (h : Wt X a σ H fun c H1 => if c = true then Q true H1 else Ww X (.BoolOp .Or (b :: r) pos) σ H1 Q) : Ww X (.BoolOp .Or (a :: b :: r) pos) σ H Q := ofPW (pw_or ptU pwU) h
theorem ww_and1 {a : Expr} {Q : Bool → Hp → Prop} (h : Wt X a σ H Q) : Ww X (.BoolOp .And [a] pos) σ H Q := ofPW (pw_and1 ptU) h
theorem ww_or1 {a : Expr} {Q : Bool → Hp → Prop} (h : Wt X a σ H Q) : Ww X (.BoolOp .Or [a] pos) σ H Q := ofPW (pw_or1 ptU) h
theorem t_and {a b : Expr} {r : List Expr} {Q : Bool → Hp → Prop} (h : Wt X a σ H fun c H1 => if c = true then Ww X (.BoolOp .And (b :: r) pos) σ H1 Q else Q false H1) : Wt X (.BoolOp .And (a :: b :: r) pos) σ H Q := t_ww (ww_and h)
theorem t_or {a b : Expr} {r : List Expr} {Q : Bool → Hp → Prop} (h : Wt X a σ H fun c H1 => if c = true then Q true H1 else Ww X (.BoolOp .Or (b :: r) pos) σ H1 Q) : Wt X (.BoolOp .Or (a :: b :: r) pos) σ H Q := t_ww (ww_or h)
theorem w_and {a b : Expr} {r : List Expr} (h : We X a σ H fun x H1 => ∃ c, x = .bl c ∧ if c = true then We X (.BoolOp .And (b :: r) pos) σ H1 Q else Q (.bl false) H1) : We X (.BoolOp .And (a :: b :: r) pos) σ H Q := ofPE (pe_and peU peU) h
theorem w_or {a b : Expr} {r : List Expr} (h : We X a σ H fun x H1 => ∃ c, x = .bl c ∧ if c = true then Q (.bl true) H1 else We X (.BoolOp .Or (b :: r) pos) σ H1 Q) : We X (.BoolOp .Or (a :: b :: r) pos) σ H Q := ofPE (pe_or peU peU) h
theorem w_bool1 {a : Expr} {op} (h : We X a σ H Q) : We X (.BoolOp op [a] pos) σ H Q := ofPE (pe_one peU) h
theorem w_not {a : Expr} (h : We X a σ H fun x H1 => ∃ c, x = .bl c ∧ Q (.bl (!c)) H1) : We X (.UnaryOp .Not a pos) σ H Q := ofPE (pe_not peU) h
theorem w_if {c a b : Expr} (h : Wt X c σ H fun z H1 => if z = true then We X a σ H1 Q else We X b σ H1 Q) : We X (.IfExp c a b pos) σ H Q := ofPE (pe_ifExp ptU peU peU) h
theorem wa_nil {Q : List V → Hp → Prop} (h : Q [] H) : Wa X [] σ H Q := ofPA pa_nil h
theorem wa_cons {e : Expr} {es : List Expr} {Q : List V → Hp → Prop} (h : We X e σ H fun x H1 => Wa X es σ H1 fun xs H2 => Q (x :: xs) H2) (hs : starEach (e :: es) X.env = (false, eval e X.env) :: starEach es X.env := by kernel_rfl) : Wa X (e :: es) σ H Q := ofPA (pa_cons peU paU hs) h
theorem w_tup {es : List Expr} {x1} (h : Wa X es σ H fun xs H1 => xs.length ≤ sizeLine ∧ ∀ p, H1 p = none → Q (.ref p) (upd H1 p (.tup xs))) : We X (.Tuple es x1 pos) σ H Q := ofPE (pe_tup paU) h
theorem w_lst {es : List Expr} (h : Wa X es σ H fun xs H1 => xs.length ≤ sizeLine ∧ ∀ p, H1 p = none → Q (.ref p) (upd H1 p (.lst xs))) : We X (.List es pos) σ H Q := ofPE (pe_lst paU) h
theorem w_ix {a b : Expr} (h : We X a σ H fun x H1 => We X b σ H1 fun y H2 => Wix X x y H2 Q) (hs : PlainIx b := by with_unfolding_all exact (fun _ _ => by kernel_rfl)) : We X (.Subscript a b pos) σ H Q := ofPE (pe_ix ixU peU peU hs) h
theorem w_fld (cx : CxI P w K mg base k VL AL GL E X) {e : Expr} {f : Str} (h : We X e σ H fun x H1 => ∃ a C dx fs v, x = .ref a ∧ H1 a = some (.ins C dx fs) ∧ Cls K C ∧ NoAttr K C f ∧ fs.lookup f = some v ∧ Q v H1)
    (hb : attributeBase e f X.env (eval e X.env) = eval e X.env := by kernel_rfl) : We X (.Attribute e f pos) σ H Q := by
  have e1 := cx.eK
  subst e1
  exact ofPE (pe_fld peU hb) h

/-! ### statements -/
variable {nx : St → Hp → Prop} {rt : VK} {bk ct : St → Hp → Prop} {rest : List Stmt}
theorem s_nil (h : nx σ H) : Wss X [] ⟨nx, rt, bk, ct⟩ σ H := ofPSs pss_nil h
theorem s_cons {st : Stmt} (h : Ws X st ⟨fun σ' H' => Wss X rest ⟨nx, rt, bk, ct⟩ σ' H', rt, bk, ct⟩ σ H) : Wss X (st :: rest) ⟨nx, rt, bk, ct⟩ σ H := ofPSs (pss_cons psU pssU) h
theorem s_doc {x j pos'} (h : Wss X rest ⟨nx, rt, bk, ct⟩ σ H) : Wss X (.Expr (.Constant (.str x) j pos) pos' :: rest) ⟨nx, rt, bk, ct⟩ σ H := ofPSs (pss_cons ps_doc pssU) h
theorem s_pass (h : Wss X rest ⟨nx, rt, bk, ct⟩ σ H) : Wss X (.Pass pos :: rest) ⟨nx, rt, bk, ct⟩ σ H := ofPSs (pss_cons ps_pass pssU) h
theorem s_break (h : bk σ H) : Wss X (.Break pos :: rest) ⟨nx, rt, bk, ct⟩ σ H := ofPSs (pss_cons ps_break pssU) h
theorem s_cont (h : ct σ H) : Wss X (.Continue pos :: rest) ⟨nx, rt, bk, ct⟩ σ H := ofPSs (pss_cons ps_continue pssU) h
theorem s_ret {e : Expr} (h : We X e σ H rt) : Wss X (.Return (some e) pos :: rest) ⟨nx, rt, bk, ct⟩ σ H := ofPSs (pss_cons (ps_ret peU) pssU) h
theorem s_retN (h : rt .non H) : Wss X (.Return none pos :: rest) ⟨nx, rt, bk, ct⟩ σ H := ofPSs (pss_cons ps_retN pssU) h
theorem s_expr {e : Expr} (h : We X e σ H fun _ H1 => Wss X rest ⟨nx, rt, bk, ct⟩ σ H1) (hs : swapsWith e none pos.line X.env = pure false := by kernel_rfl) : Wss X (.Expr e pos :: rest) ⟨nx, rt, bk, ct⟩ σ H := ofPSs (pss_cons (ps_expr peU hs) pssU) h
theorem s_if {c : Expr} {a b : List Stmt} (h : Wt X c σ H fun z H1 => if z = true then Wss X a ⟨fun σ' H' => Wss X rest ⟨nx, rt, bk, ct⟩ σ' H', rt, bk, ct⟩ σ H1 else Wss X b ⟨fun σ' H' => Wss X rest ⟨nx, rt, bk, ct⟩ σ' H', rt, bk, ct⟩ σ H1) :
    Wss X (.If c a b pos :: rest) ⟨nx, rt, bk, ct⟩ σ H := ofPSs (pss_cons (ps_if ptU pssU pssU) pssU) h
theorem s_set (cx : CxI P w K mg base k VL AL GL E X) {x : Str} {e : Expr} {pos' : Pos} (h : We X e σ H fun v H1 => ∃ σ', SetAt x v AL σ σ' ∧ Wss X rest ⟨nx, rt, bk, ct⟩ σ' H1)
    (hs : swapsWith e (some (.Name x pos')) pos.line X.env = pure false := by kernel_rfl) : Wss X (.Assign [.Name x pos'] e pos :: rest) ⟨nx, rt, bk, ct⟩ σ H := by
  refine s_cons fun pins s I => ?_
  refine wpAny_Assign_Name (thn (h pins s I) fun v s1 ⟨y, H1, I1, r1, σ', q0, q1⟩ => ?_) hs
  obtain ⟨i, a, b, l, f⟩ := cx.asg q0
  subst b
  exact store_ok I1 cx.nd a l r1 (fun s2 I2 => ⟨_, H1, I2, q1⟩) f
theorem s_asg {tg e : Expr} (h : We X e σ H fun v H1 => Wg X tg v σ H1 fun σ' H2 => Wss X rest ⟨nx, rt, bk, ct⟩ σ' H2) (hs : swapsWithSole [tg] e pos.line X.env = pure false := by kernel_rfl) (hw : swappedStores [tg] e X.env = pure none := by kernel_rfl)
    (h1 : (assignEach [tg] X.env).map (·.2) = [assign tg X.env] := by kernel_rfl) : Wss X (.Assign [tg] e pos :: rest) ⟨nx, rt, bk, ct⟩ σ H := ofPSs (pss_cons (ps_asg peU pgU hs hw h1) pssU) h
/-! targets -/
theorem g_name (cx : CxI P w K mg base k VL AL GL E X) {x : Str} {v : V} {σ' : St} {R : St → Hp → Prop} (hs : SetAt x v AL σ σ') (h : R σ' H) : Wg X (.Name x pos) v σ H R := by
  obtain ⟨i, a, b, l, f⟩ := cx.asg hs
  subst b
  exact ofPG (pg_name (i := i) cx.nd a l f) h
theorem g_tup (cx : CxI P w K mg base k VL AL GL E X) {es : List Expr} {kk : Nat} {v : V} {R : St → Hp → Prop} {a : Addr} {xs : List V} (hv : v = .ref a) (hx : SqT K H a xs) (hl : xs.length = es.length) (h : Wgs X es xs σ H R)
    (hn : (assignEach es X.env).length = es.length := by kernel_rfl) (hst : (assignEach es X.env).findIdx? (·.1) = none := by kernel_rfl) : Wg X (.Tuple es kk pos) v σ H R := by
  have e1 := cx.eK
  subst e1
  exact ofPG (pg_tup (n := es.length) cx.calm pgsU hn hst) ⟨a, xs, hv, hx, hl, h⟩
theorem gs_nil {R : St → Hp → Prop} (h : R σ H) : Wgs X [] [] σ H R := ofPGs pgs_nil ⟨rfl, h⟩
theorem gs_cons {e : Expr} {es : List Expr} {v : V} {vs : List V} {R : St → Hp → Prop} (h : Wg X e v σ H fun σ' H' => Wgs X es vs σ' H' R) (hs : (assignEach (e :: es) X.env).map (·.2) = assign e X.env :: (assignEach es X.env).map (·.2) := by kernel_rfl) :
    Wgs X (e :: es) (v :: vs) σ H R := ofPGs (pgs_cons pgU pgsU hs) ⟨v, vs, rfl, h⟩
theorem g_sub {o i : Expr} {v : V} {R : St → Hp → Prop} (h : We X o σ H fun x H1 => We X i σ H1 fun y H2 => Wset X x y v H2 fun H3 => R σ H3)
    (ha : ∀ v, assign (.Subscript o i pos) X.env v = (do
      let ov ← holding [v] (eval o X.env)
      let iv ← holding [v, ov] (eval i X.env)
      standAt pos
      holding [v, ov, iv] (setItem ov iv v)
      release [v, ov, iv] []) := by exact (fun _ => by kernel_rfl)) : Wg X (.Subscript o i pos) v σ H R := ofPG (pg_sub peU peU setU ha) h
/-! loops -/
theorem s_for (cx : CxI P w K mg base k VL AL GL E X) {tg iter : Expr} {body : List Stmt}
    (h : Wi X tg iter σ H fun J H1 => ∃ W : Nat → Nat → St → Hp → Prop, (∃ m, W 0 m σ H1) ∧ ∀ i m σ H, W i m σ H → (J.stop i H ∧ Wss X rest ⟨nx, rt, bk, ct⟩ σ H) ∨
      (J.go i H ∧ ∃ N : St → Hp → Prop, (∀ σ' H', N σ' H' → ∃ m', m' < m ∧ W (i + 1) m' σ' H') ∧ ∀ x H', J.yld i H x H' → Wg X tg x σ H' fun σ2 H2 => Wss X body ⟨N, rt, fun σ' H' => Wss X rest ⟨nx, rt, bk, ct⟩ σ' H', N⟩ σ2 H2))
    (hs : ∀ x, foldedSetIterable iter X.env x = pure x := by exact (fun _ => by kernel_rfl)) : Wss X (.For tg iter body [] pos :: rest) ⟨nx, rt, bk, ct⟩ σ H := s_cons (ofPS (ps_for cx.pas cx.calm piU pgU pssU hs) h)
theorem s_while (cx : CxI P w K mg base k VL AL GL E X) {c : Expr} {body : List Stmt}
    (h : ∃ W : Nat → St → Hp → Prop, (∃ m, W m σ H) ∧ ∀ m σ H, W m σ H → Wt X c σ H fun b H1 => if b = true then ∃ N : St → Hp → Prop, (∀ σ' H', N σ' H' → ∃ m', m' < m ∧ W m' σ' H') ∧ Wss X body ⟨N, rt, fun σ' H' => Wss X rest ⟨nx, rt, bk, ct⟩ σ' H', N⟩ σ H1 else Wss X rest ⟨nx, rt, bk, ct⟩ σ H1) :
    Wss X (.While c body [] pos :: rest) ⟨nx, rt, bk, ct⟩ σ H := s_cons (ofPS (ps_while cx.pas ptU pssU) h)
end
end U

/-! U1: what is known of the heap (Kn), stepping rules by values. -/
namespace U
open PySem PySem.Spec L2
open PyProof.Rows hiding St

/-- a dict: may be walked (frozen for the while) -/
def Nfz (o : HO) : Prop := (∃ k, o = .dK k) ∨ ∃ k, o = .dT k
def Sub (I J : Hp) : Prop := ∀ b o, I b = some o → J b = some o ∨ (Nfz o ∧ ∃ od, J b = some (.frz od o))
theorem Sub.rd {I J : Hp} (s : Sub I J) {b : Addr} {o : HO} (h : I b = some o) : Rd J b o := by
  rcases s b o h with z | ⟨_, od, z⟩
  · exact .inl z
  · exact .inr ⟨od, z⟩
/-- R: what is known for good; N: what is owned; L: the dicts that are walked -/
structure KnI (R : Hp → Prop) (N : List (Addr × (HO → Prop))) (L : List (Addr × Obj)) (H I : Hp) : Prop where
  good : ∀ J, Sub I J → R J
  here : ∀ b o, I b = some o → H b = some o ∨ (Nfz o ∧ ∃ od, (b, od) ∈ L ∧ H b = some (.frz od o))
  frz : ∀ b o u, I b = some (.frz o u) → ∃ xs, u = .lst xs
  own : ∀ p ∈ N, I p.1 = none ∧ ∃ o, H p.1 = some o ∧ p.2 o
  nd : (N.map (·.1)).Nodup
def Kn (R : Hp → Prop) (N : List (Addr × (HO → Prop))) (L : List (Addr × Obj)) (H : Hp) : Prop := ∃ I, KnI R N L H I
def At (p : Addr) (o : HO) : Hp → Prop := fun J => Rd J p o
def Ex (p : Addr) (o : HO) : Hp → Prop := fun J => J p = some o
def Is (o : HO) : HO → Prop := fun u => u = o
def Cj (B R : Hp → Prop) : Hp → Prop := fun J => B J ∧ R J
def Ent (R B : Hp → Prop) : Prop := ∀ J, R J → B J
def Tr : Hp → Prop := fun _ => True
theorem Ent.h {B R : Hp → Prop} : Ent (Cj B R) B := fun _ h => h.1
theorem Ent.t {B C R : Hp → Prop} (e : Ent R B) : Ent (Cj C R) B := fun J h => e J h.2
theorem Ent.r {R : Hp → Prop} : Ent R R := fun _ h => h
theorem Ent.cj {B C R : Hp → Prop} (a : Ent R B) (b : Ent R C) : Ent R (Cj B C) := fun J h => ⟨a J h, b J h⟩
theorem Ent.trans {A B C : Hp → Prop} (a : Ent A B) (b : Ent B C) : Ent A C := fun J h => b J (a J h)
/-- an entry of N, an entry of N changed, taken out -/
inductive Has (a : Addr) (A : HO → Prop) : List (Addr × (HO → Prop)) → Prop
  | h {N} : Has a A ((a, A) :: N)
  | t {y N} : Has a A N → Has a A (y :: N)
inductive Put (a : Addr) (A A' : HO → Prop) : List (Addr × (HO → Prop)) → List (Addr × (HO → Prop)) → Prop
  | h {N} : Put a A A' ((a, A) :: N) ((a, A') :: N)
  | t {y N N'} : Put a A A' N N' → Put a A A' (y :: N) (y :: N')
inductive Take (a : Addr) (A : HO → Prop) : List (Addr × (HO → Prop)) → List (Addr × (HO → Prop)) → Prop
  | h {N} : Take a A ((a, A) :: N) N
  | t {y N N'} : Take a A N N' → Take a A (y :: N) (y :: N')
section
variable {R B : Hp → Prop} {N N' : List (Addr × (HO → Prop))} {L : List (Addr × Obj)} {H : Hp} {a p : Addr} {A A' : HO → Prop} {o : HO}
theorem Sub.refl (I : Hp) : Sub I I := fun _ _ h => .inl h
theorem KnI.sub {I : Hp} (k : KnI R N L H I) : Sub I H := fun b o e => by
  rcases k.here b o e with h | ⟨n, od, _, h⟩
  · exact .inl h
  · exact .inr ⟨n, od, h⟩
theorem Kn.get (k : Kn R N L H) (e : Ent R B) : B H := by
  obtain ⟨I, k⟩ := k
  exact e _ (k.good H k.sub)
theorem Kn.rd (k : Kn R N L H) (e : Ent R (At p o)) : Rd H p o := k.get e
theorem Kn.weak (k : Kn R N L H) (e : Ent R B) : Kn B N L H := by
  obtain ⟨I, k⟩ := k
  exact ⟨I, fun J s => e _ (k.good J s), k.here, k.frz, k.own, k.nd⟩
theorem Kn.add (k : Kn R N L H) (e : Ent R B) : Kn (Cj B R) N L H := k.weak (e.cj Ent.r)
theorem Has.mem (h : Has a A N) : (a, A) ∈ N := by
  induction h with
  | h => exact List.mem_cons_self
  | t _ ih => exact List.mem_cons_of_mem _ ih
theorem Kn.has (k : Kn R N L H) (h : Has a A N) : ∃ o, H a = some o ∧ A o := by
  obtain ⟨I, k⟩ := k
  exact (k.own _ h.mem).2
theorem Kn.is (k : Kn R N L H) (h : Has a (Is o) N) : H a = some o := by
  obtain ⟨u, e, rfl⟩ := k.has h
  exact e
theorem Put.has (h : Put a A A' N N') : Has a A N := by
  induction h with
  | h => exact .h
  | t _ ih => exact .t ih
theorem Take.has (h : Take a A N N') : Has a A N := by
  induction h with
  | h => exact .h
  | t _ ih => exact .t ih
theorem Put.keys (h : Put a A A' N N') : N'.map (·.1) = N.map (·.1) := by
  induction h with
  | h => rfl
  | t _ ih => simp [ih]
theorem Put.mem (h : Put a A A' N N') : ∀ q ∈ N', q = (a, A') ∨ q ∈ N := by
  induction h with
  | h => intro q hq; rcases List.mem_cons.mp hq with e | e <;> simp [e]
  | t _ ih =>
    intro q hq
    rcases List.mem_cons.mp hq with e | e
    · simp [e]
    · rcases ih q e with z | z <;> simp [z]
theorem Put.mem' (h : Put a A A' N N') (nd : (N.map (·.1)).Nodup) : ∀ q ∈ N', q = (a, A') ∨ (q ∈ N ∧ q.1 ≠ a) := by
  induction h with
  | @h N =>
    intro q hq
    rcases List.mem_cons.mp hq with e | e
    · exact .inl e
    · refine .inr ⟨List.mem_cons_of_mem _ e, fun z => ?_⟩
      have nd' : (a :: N.map (·.1)).Nodup := nd
      have := (List.nodup_cons.mp nd').1
      exact this (by rw [← z]; exact List.mem_map_of_mem e)
  | @t y N N' hp ih =>
    intro q hq
    have nd' : (y.1 :: N.map (·.1)).Nodup := nd
    rcases List.mem_cons.mp hq with e | e
    · subst e
      refine .inr ⟨List.mem_cons_self, fun z => ?_⟩
      exact (List.nodup_cons.mp nd').1 (by rw [z]; exact List.mem_map_of_mem (f := (·.1)) hp.has.mem)
    · rcases ih (List.nodup_cons.mp nd').2 q e with z | z
      · exact .inl z
      · exact .inr ⟨List.mem_cons_of_mem _ z.1, z.2⟩
theorem Take.mem' (h : Take a A N N') (nd : (N.map (·.1)).Nodup) : (∀ q ∈ N', q ∈ N ∧ q.1 ≠ a) ∧ (N'.map (·.1)).Nodup := by
  induction h with
  | @h N =>
    have nd' : (a :: N.map (·.1)).Nodup := nd
    refine ⟨fun q hq => ⟨List.mem_cons_of_mem _ hq, fun z => ?_⟩, (List.nodup_cons.mp nd').2⟩
    exact (List.nodup_cons.mp nd').1 (by rw [← z]; exact List.mem_map_of_mem hq)
  | @t y N N' hp ih =>
    have nd' : (y.1 :: N.map (·.1)).Nodup := nd
    obtain ⟨m, n⟩ := ih (List.nodup_cons.mp nd').2
    refine ⟨fun q hq => ?_, ?_⟩
    · rcases List.mem_cons.mp hq with e | e
      · subst e
        refine ⟨List.mem_cons_self, fun z => ?_⟩
        exact (List.nodup_cons.mp nd').1 (by rw [z]; exact List.mem_map_of_mem (f := (·.1)) hp.has.mem)
      · exact ⟨List.mem_cons_of_mem _ (m q e).1, (m q e).2⟩
    · rw [List.map_cons]
      refine List.nodup_cons.mpr ⟨fun z => ?_, n⟩
      obtain ⟨q, hq, e⟩ := List.mem_map.mp z
      exact (List.nodup_cons.mp nd').1 (by rw [← e]; exact List.mem_map_of_mem (f := (·.1)) (m q hq).1)
/-- an owned entry is known less well -/
theorem Kn.imp (k : Kn R N L H) (h : Put a A A' N N') (i : ∀ o, A o → A' o) : Kn R N' L H := by
  obtain ⟨I, k⟩ := k
  refine ⟨I, k.good, k.here, k.frz, fun q hq => ?_, by rw [h.keys]; exact k.nd⟩
  rcases h.mem q hq with e | e
  · subst e
    obtain ⟨n, o, e, z⟩ := k.own _ h.has.mem
    exact ⟨n, o, e, i _ z⟩
  · exact k.own q e
/-- an owned object is written -/
theorem Kn.write (k : Kn R N L H) (h : Put a A A' N N') (i : A' o) : Kn R N' L (upd H a o) := by
  obtain ⟨I, k⟩ := k
  have na := (k.own _ h.has.mem).1
  refine ⟨I, k.good, fun b u e => ?_, k.frz, fun q hq => ?_, by rw [h.keys]; exact k.nd⟩
  · have nb : b ≠ a := fun z => by subst z; rw [na] at e; cases e
    rw [upd_ne nb]; exact k.here b u e
  · rcases h.mem' k.nd q hq with e | ⟨e, ne⟩
    · subst e
      exact ⟨na, o, upd_same, i⟩
    · rw [upd_ne ne]; exact k.own q e
/-- a new object, owned -/
theorem Kn.new (k : Kn R N L H) (hp : H p = none) (i : A o) : Kn R ((p, A) :: N) L (upd H p o) := by
  obtain ⟨I, k⟩ := k
  have np : I p = none := by
    cases e : I p with
    | none => rfl
    | some u => rcases k.here p u e with z | ⟨_, _, _, z⟩ <;> (rw [hp] at z; cases z)
  have ne : ∀ q ∈ N, q.1 ≠ p := fun q hq z => by
    obtain ⟨_, u, e, _⟩ := k.own q hq
    rw [z, hp] at e; cases e
  refine ⟨I, k.good, fun b u e => ?_, k.frz, fun q hq => ?_, ?_⟩
  · have nb : b ≠ p := fun z => by subst z; rw [np] at e; cases e
    rw [upd_ne nb]; exact k.here b u e
  · rcases List.mem_cons.mp hq with e | e
    · subst e; exact ⟨np, o, upd_same, i⟩
    · rw [upd_ne (ne q e)]; exact k.own q e
  · rw [List.map_cons]
    refine List.nodup_cons.mpr ⟨fun z => ?_, k.nd⟩
    obtain ⟨q, hq, e⟩ := List.mem_map.mp z
    exact ne q hq e
/-- a new object that nobody tells of -/
theorem Kn.junk (k : Kn R N L H) (hp : H p = none) : Kn R N L (upd H p o) := by
  obtain ⟨I, k⟩ := k.new (A := fun _ => True) (o := o) hp trivial
  exact ⟨I, k.good, k.here, k.frz, fun q hq => k.own q (List.mem_cons_of_mem _ hq), (List.nodup_cons.mp (by simpa using k.nd)).2⟩
/-- an owned object is given to the known ones -/
theorem Kn.give (k : Kn R N L H) (h : Take a A N N') (nf : ∀ o u v, A o → o ≠ .frz u v) : Kn (Cj (fun J => ∃ o, A o ∧ At a o J) R) N' L H := by
  obtain ⟨I, k⟩ := k
  obtain ⟨na, o, ha, ao⟩ := k.own _ h.has.mem
  obtain ⟨m, n⟩ := h.mem' k.nd
  have na : I a = none := na
  refine ⟨upd I a o, fun J s => ⟨⟨o, ao, s.rd upd_same⟩, k.good J fun b u e => s b u ?_⟩, fun b u e => ?_, fun b u v e => ?_, fun q hq => ?_, n⟩
  · have nb : b ≠ a := fun z => by subst z; rw [na] at e; cases e
    rw [upd_ne nb]; exact e
  · by_cases nb : b = a
    · subst nb; rw [upd_same] at e; cases e; exact .inl ha
    · rw [upd_ne nb] at e; exact k.here b u e
  · by_cases nb : b = a
    · subst nb; rw [upd_same] at e; cases e; exact absurd rfl (nf _ _ _ ao)
    · rw [upd_ne nb] at e; exact k.frz b u v e
  · obtain ⟨x, ne⟩ := m q hq
    rw [upd_ne ne]; exact k.own q x
theorem Kn.give1 (k : Kn R N L H) (h : Take a (Is o) N N') (nf : ∀ u v, o ≠ .frz u v) : Kn (Cj (At a o) R) N' L H :=
  (k.give h (fun x u v e z => by cases e; exact nf u v z)).weak fun J z => ⟨by obtain ⟨⟨x, ex, hx⟩, _⟩ := z; cases ex; exact hx, z.2⟩
theorem Kn.newI (k : Kn R N L H) (hp : H p = none) (nf : ∀ u v, o ≠ .frz u v) : Kn (Cj (At p o) R) N L (upd H p o) := (k.new (A := Is o) hp rfl).give1 .h nf
/-- .. one that is no dict: it stands exactly so -/
theorem Kn.newX (k : Kn R N L H) (hp : H p = none) (nd : ¬ Nfz o) (nf : ∀ u v, o ≠ .frz u v) : Kn (Cj (Ex p o) R) N L (upd H p o) := by
  obtain ⟨I, k⟩ := k
  have np : I p = none := by
    cases e : I p with
    | none => rfl
    | some u => rcases k.here p u e with z | ⟨_, _, _, z⟩ <;> (rw [hp] at z; cases z)
  refine ⟨upd I p o, fun J s => ⟨?_, k.good J fun b u e => s b u ?_⟩, fun b u e => ?_, fun b u v e => ?_, fun q hq => ?_, k.nd⟩
  · rcases s p o upd_same with z | ⟨n, _⟩
    · exact z
    · exact absurd n nd
  · have nb : b ≠ p := fun z => by subst z; rw [np] at e; cases e
    rw [upd_ne nb]; exact e
  · by_cases nb : b = p
    · subst nb; rw [upd_same] at e; cases e; exact .inl upd_same
    · rw [upd_ne nb] at e ⊢; exact k.here b u e
  · by_cases nb : b = p
    · subst nb; rw [upd_same] at e; cases e; exact absurd rfl (nf _ _)
    · rw [upd_ne nb] at e; exact k.frz b u v e
  · obtain ⟨n, u, x, y⟩ := k.own q hq
    have ne : q.1 ≠ p := fun z => by rw [z, hp] at x; cases x
    rw [upd_ne ne, upd_ne ne]; exact ⟨n, u, x, y⟩
/-- .. an owned one that is no dict -/
theorem Kn.giveX (k : Kn R N L H) (h : Take a A N N') (nf : ∀ o u v, A o → o ≠ .frz u v) (nd : ∀ o, A o → ¬ Nfz o) : Kn (Cj (fun J => ∃ o, A o ∧ Ex a o J) R) N' L H := by
  obtain ⟨I, k⟩ := k
  obtain ⟨na, o, ha, ao⟩ := k.own _ h.has.mem
  obtain ⟨m, n⟩ := h.mem' k.nd
  have na : I a = none := na
  refine ⟨upd I a o, fun J s => ⟨⟨o, ao, ?_⟩, k.good J fun b u e => s b u ?_⟩, fun b u e => ?_, fun b u v e => ?_, fun q hq => ?_, n⟩
  · rcases s a o upd_same with z | ⟨n, _⟩
    · exact z
    · exact absurd n (nd o ao)
  · have nb : b ≠ a := fun z => by subst z; rw [na] at e; cases e
    rw [upd_ne nb]; exact e
  · by_cases nb : b = a
    · subst nb; rw [upd_same] at e; cases e; exact .inl ha
    · rw [upd_ne nb] at e; exact k.here b u e
  · by_cases nb : b = a
    · subst nb; rw [upd_same] at e; cases e; exact absurd rfl (nf _ _ _ ao)
    · rw [upd_ne nb] at e; exact k.frz b u v e
  · obtain ⟨x, ne⟩ := m q hq
    rw [upd_ne ne]; exact k.own q x
theorem Kn.giveL {xs : List V} (k : Kn R N L H) (h : Take a (Is (.lst xs)) N N') : Kn (Cj (Ex a (.lst xs)) R) N' L H :=
  (k.giveX h (fun x u v e z => by cases e; cases z) (fun x e n => by cases e; rcases n with ⟨k, z⟩ | ⟨k, z⟩ <;> cases z)).weak fun J z => ⟨by obtain ⟨⟨x, ex, hx⟩, _⟩ := z; cases ex; exact hx, z.2⟩
/-- the first owned object is looked at -/
theorem Kn.open1 {M : List (Addr × (HO → Prop))} (k : Kn R ((a, A) :: M) L H) : ∃ o, A o ∧ Kn R ((a, Is o) :: M) L H := by
  obtain ⟨I, k⟩ := k
  obtain ⟨n, o, e, z⟩ := k.own _ List.mem_cons_self
  refine ⟨o, z, I, k.good, k.here, k.frz, fun q hq => ?_, k.nd⟩
  rcases List.mem_cons.mp hq with y | y
  · subst y; exact ⟨n, o, e, rfl⟩
  · exact k.own q (List.mem_cons_of_mem _ y)
theorem Kn.drop1 {x} (k : Kn R (x :: N) L H) : Kn R N L H := by
  obtain ⟨I, k⟩ := k
  exact ⟨I, k.good, k.here, k.frz, fun q hq => k.own q (List.mem_cons_of_mem _ hq), (List.nodup_cons.mp (by simpa using k.nd)).2⟩
theorem Kn.take (k : Kn R N L H) (h : Take a A N N') : Kn R N' L H := by
  obtain ⟨I, k⟩ := k
  obtain ⟨m, n⟩ := h.mem' k.nd
  exact ⟨I, k.good, k.here, k.frz, fun q hq => k.own q (m q hq).1, n⟩
/-- an object that is known for good stands there unfrozen, if it is not walked -/
theorem Kn.at_ (k : Kn R N L H) (e : Ent R (At p o)) (hl : ∀ od, (p, od) ∉ L) (dc : Nfz o) : H p = some o := by
  have nl : ∀ xs, o ≠ .lst xs := fun xs z => by rcases dc with ⟨k, e⟩ | ⟨k, e⟩ <;> (rw [e] at z; cases z)
  obtain ⟨I, k⟩ := k
  rcases e I (k.good I (Sub.refl I)) with h | ⟨u, h⟩
  · rcases k.here p o h with z | ⟨_, od, z, _⟩
    · exact z
    · exact absurd z (hl od)
  · obtain ⟨xs, z⟩ := k.frz p u o h
    exact absurd z (nl xs)
/-- a known dict is locked, unlocked -/
theorem Kn.lock {od : Obj} (k : Kn R N L H) (e : Ent R (At p o)) (nf : Nfz o) : Kn R N ((p, od) :: L) (upd H p (.frz od o)) := by
  have nl : ∀ xs, o ≠ .lst xs := fun xs z => by rcases nf with ⟨k, e⟩ | ⟨k, e⟩ <;> (rw [e] at z; cases z)
  obtain ⟨I, k⟩ := k
  have hI : I p = some o := by
    rcases e I (k.good I (Sub.refl I)) with h | ⟨u, h⟩
    · exact h
    · obtain ⟨xs, z⟩ := k.frz p u o h
      exact absurd z (nl xs)
  refine ⟨I, k.good, fun b u h => ?_, k.frz, fun q hq => ?_, k.nd⟩
  · by_cases nb : b = p
    · subst nb; rw [hI] at h; cases h; exact .inr ⟨nf, od, List.mem_cons_self, upd_same⟩
    · rw [upd_ne nb]
      rcases k.here b u h with z | ⟨n, d, z, z2⟩
      · exact .inl z
      · exact .inr ⟨n, d, List.mem_cons_of_mem _ z, z2⟩
  · obtain ⟨n, u, x, y⟩ := k.own q hq
    have ne : q.1 ≠ p := fun z => by rw [z, hI] at n; cases n
    rw [upd_ne ne]; exact ⟨n, u, x, y⟩
theorem Kn.unlock {od : Obj} (k : Kn R N ((p, od) :: L) H) (h : H p = some (.frz od o)) (e : Ent R (At p o)) (nf : Nfz o) : Kn R N L (upd H p o) := by
  have nl : ∀ xs, o ≠ .lst xs := fun xs z => by rcases nf with ⟨k, e⟩ | ⟨k, e⟩ <;> (rw [e] at z; cases z)
  obtain ⟨I, k⟩ := k
  have hI : I p = some o := by
    rcases e I (k.good I (Sub.refl I)) with h | ⟨u, h⟩
    · exact h
    · obtain ⟨xs, z⟩ := k.frz p u o h
      exact absurd z (nl xs)
  refine ⟨I, k.good, fun b u hb => ?_, k.frz, fun q hq => ?_, k.nd⟩
  · by_cases nb : b = p
    · subst nb; rw [hI] at hb; cases hb; exact .inl upd_same
    · rw [upd_ne nb]
      rcases k.here b u hb with z | ⟨n, d, z, z2⟩
      · exact .inl z
      · rcases List.mem_cons.mp z with z | z
        · cases z; exact absurd rfl nb
        · exact .inr ⟨n, d, z, z2⟩
  · obtain ⟨n, u, x, y⟩ := k.own q hq
    have ne : q.1 ≠ p := fun z => by rw [z, hI] at n; cases n
    rw [upd_ne ne]; exact ⟨n, u, x, y⟩
theorem Kn.perm {M : List (Addr × (HO → Prop))} (k : Kn R N L H) (p : ∀ q ∈ M, q ∈ N) (nd : (N.map (·.1)).Nodup → (M.map (·.1)).Nodup) : Kn R M L H := by
  obtain ⟨I, k⟩ := k
  exact ⟨I, k.good, k.here, k.frz, fun q hq => k.own q (p q hq), nd k.nd⟩
/-- the entry at hand is taken to the front, put back -/
theorem Put.focus (h : Put a A A' N N') : ∃ M, (∀ R L H, Kn R N L H → Kn R ((a, A) :: M) L H) ∧ ∀ R L H, Kn R ((a, A') :: M) L H → Kn R N' L H := by
  have key : ∃ M, (∀ q, q ∈ (a, A) :: M ↔ q ∈ N) ∧ (∀ q, q ∈ (a, A') :: M ↔ q ∈ N') ∧ (((a, A) :: M).map (·.1)).Perm (N.map (·.1)) ∧ (((a, A') :: M).map (·.1)).Perm (N'.map (·.1)) := by
    induction h with
    | @h N => exact ⟨N, fun q => Iff.rfl, fun q => Iff.rfl, .refl _, .refl _⟩
    | @t y N N' _ ih =>
      obtain ⟨M, a1, a2, a3, a4⟩ := ih
      refine ⟨y :: M, fun q => ?_, fun q => ?_, ?_, ?_⟩
      · rw [List.mem_cons, List.mem_cons, List.mem_cons, ← a1 q, List.mem_cons]
        constructor <;> (intro h; rcases h with h | h | h <;> simp [h])
      · rw [List.mem_cons, List.mem_cons, List.mem_cons, ← a2 q, List.mem_cons]
        constructor <;> (intro h; rcases h with h | h | h <;> simp [h])
      · have z : (y.1 :: a :: M.map (fun x => x.1)).Perm (y.1 :: (N).map (fun x => x.1)) := List.Perm.cons y.1 a3
        exact (List.Perm.swap y.1 a (M.map (fun x => x.1))).trans z
      · have z : (y.1 :: a :: M.map (fun x => x.1)).Perm (y.1 :: (N').map (fun x => x.1)) := List.Perm.cons y.1 a4
        exact (List.Perm.swap y.1 a (M.map (fun x => x.1))).trans z
  obtain ⟨M, a1, a2, a3, a4⟩ := key
  exact ⟨M, fun R L H k => k.perm (fun q hq => (a1 q).mp hq) fun nd => a3.nodup_iff.mpr nd, fun R L H k => k.perm (fun q hq => (a2 q).mpr hq) fun nd => a4.nodup_iff.mp nd⟩
theorem Kn.start {K : PySem.W.Frag} {xs : List V} (h : SqL K H a xs) : Kn (fun J => SqL K J a xs) [] [] H := by
  rcases h with (h | ⟨o, h⟩) | h
  · refine ⟨fun b => if b = a then some (.lst xs) else none, fun J s => .inl (s.rd (if_pos rfl)), fun b o e => ?_, fun b o u e => ?_, fun q hq => absurd hq (by simp), by simp⟩
    · split at e
      · rename_i z; subst z; cases e; exact .inl h
      · cases e
    · split at e
      · cases e
      · cases e
  · refine ⟨fun b => if b = a then some (.frz o (.lst xs)) else none, fun J s => ?_, fun b u e => ?_, fun b p u e => ?_, fun q hq => absurd hq (by simp), by simp⟩
    · rcases s a _ (if_pos rfl) with z | ⟨n, p, z⟩
      · exact .inl (.inr ⟨o, z⟩)
      · rcases n with ⟨k, e⟩ | ⟨k, e⟩ <;> cases e
    · split at e
      · rename_i z; subst z; cases e; exact .inl h
      · cases e
    · split at e
      · cases e; exact ⟨xs, rfl⟩
      · cases e
  · exact ⟨fun _ => none, ⟨fun J s => .inr h, fun b o e => (nomatch e), fun b o u e => (nomatch e), fun q hq => absurd hq (by simp), by simp⟩⟩
end
end U

/-! U2: defs, calls, operators by values. -/
namespace U
open PySem PySem.Spec L2
open PyProof.Rows hiding St

section
variable {P : Program} {w : World} {K : PySem.W.Frag} {mg : Str → Option Value} {base : Heap}
/-! ### defs -/
/-- the work around a call: room, and no text of a thing under way -/
structure RmG (k : Nat) (A : Around) : Prop where
  rm : Room k A
  gd : A.guards = some []
theorem RmG.mono {j k : Nat} {A : Around} (r : RmG k A) (h : j ≤ k) : RmG j A := ⟨r.rm.mono h, r.gd⟩
theorem gd_deeper {A : Around} {env : Env} (h : A.guards = some []) : (A.deeper env).guards = some [] := h
theorem gd_in1 {A : Around} (h : A.guards = some []) : A.in1.guards = some [] := h
theorem RmG.in1 {k : Nat} {A : Around} (r : RmG (k + 1) A) : RmG k A.in1 := ⟨r.rm.in1, gd_in1 r.gd⟩
theorem gd_make {A : Around} {C : Addr} {us : List Value} {kw : List (Str × Value)} (h : A.guards = some []) : (A.under (.builtin "type.__call__" ⟨.ref C :: us, kw⟩)).guards = some [] := by
  have e : (Code.builtin "type.__call__" ⟨.ref C :: us, kw⟩).guards = [] := by kernel_rfl
  show pushGuards (Code.builtin "type.__call__" ⟨.ref C :: us, kw⟩).guards A.guards = some []
  rw [e, h]
  rfl
theorem RmG.make {k : Nat} {A : Around} (r : RmG (k + 1) A) (C : Addr) (us : List Value) (kw : List (Str × Value)) : RmG k (A.under (.builtin "type.__call__" ⟨.ref C :: us, kw⟩)) := ⟨r.rm.make C us kw, gd_make r.gd⟩
/-- what a def promises, wherever no text of a thing is under way -/
structure Fk (P : Program) (w : World) (K : PySem.W.Frag) (mg : Str → Option Value) (base : Heap) (j : Nat) (f : Addr) (fd : FuncData) (ps : List Str) (sp : Sp) : Prop where
  len : ∀ vs H Q E, sp vs H Q E → vs.length = ps.length
  run : ∀ (A : Around) (outer : List Env) (s : Shared) (H : Hp) (args : Args) (us : List Value) (vs : List V) (Q : VK) (E : XK), RmG j A → Env0 P w K mg base A outer s H → BindsTo s fd args (ps.zip us) → Vals vs us → sp vs H Q E →
    codeAny (model P w) A (.call (.ref f) args) (CR (L2.CX P w) outer P w H s Q E) s
theorem Fk.mono {i j : Nat} {f : Addr} {fd : FuncData} {ps : List Str} {sp : Sp} (F : Fk P w K mg base i f fd ps sp) (h : i ≤ j) : Fk P w K mg base j f fd ps sp := ⟨F.len, fun A o s H ar us vs Q E r => F.run A o s H ar us vs Q E (r.mono h)⟩
/-- the names of a body, for the comprehensions in it -/
structure CxN (N : List Str) (ns : List (Str × NameKind)) (X : Cx) : Prop where
  n : X.N = N
  ns : X.env.scope.names = ns
  kd : X.env.scope.kind = .function
theorem fn_okC {x qual : Str} {st : Stmt} {f : Addr} {fd : FuncData} {N ps : List Str} {k : Nat} {sp : Sp} {ns : List (Str × NameKind)} {VL : List (Option Str)} {GL : List Str} (F : Fun K x qual st f fd) (S : FnScope N ps (defScope st)) (hns : (defScope st).names = ns)
    (ok : okAll N ns VL VL GL = true) (hbl : ∀ x ∈ blts, mg x = none) (len : ∀ vs H Q E, sp vs H Q E → vs.length = ps.length)
    (h : ∀ (X : Cx) (H : Hp) (vs : List V) (Q : VK) (E : XK), CxI P w K mg base k VL VL GL E X → CxN N ns X → sp vs H Q E → Wss X (defBody st) ⟨fun _ H' => Q .non H', Q, fun _ _ => False, fun _ _ => False⟩ (start N vs) H) : Fk P w K mg base (k + 1) f fd ps sp := by
  refine ⟨len, fun A outer s H args us vs Q E hr env hbind rel hs => ?_⟩
  obtain ⟨oc, od, kV, doc, pm, an, cdv, ct, osl, efd, look, hcode⟩ := F.ex
  subst efd
  have inK : K.In s.heap := env.mod.kin.keeps fun b o e => (env.bs b o e).1
  have loc : ∀ y ∈ ps.zip us, (defScope st).names.lookup y.1 = some .local ∨ ((defScope st).names.lookup y.1 = some .cell ∧ ((cellsFrom (s.heap.objs.size + 1) (defScope st).names []).lookup y.1).isSome = true) := by
    intro y hy
    have my : y.1 ∈ ps := (List.of_mem_zip (show (y.1, y.2) ∈ ps.zip us from hy)).1
    exact (S.par y.1 my).imp id fun c => ⟨c, PySem.W.cellsFrom_some _ _ _ (.inl c)⟩
  refine codeAny_call_function hr.rm.depth (inK _ _ look) rfl S.co S.gen rfl (PySem.W.codeRec_of inK hcode) (hbind _ _ _ _ ?_)
  refine wpAny_newFunctionEnv_cells S.kind loc fun env1 eenv t inC => ?_
  subst eenv
  refine ⟨(env.mod.nolimit.keeps fun b o e => (env.bs b o e).1).keeps inC.toInCall.keep, codeAny_func ?_⟩
  let X := cxOf (L2.CX P w) P w K mg base N qual (defScope st) f cdv A outer s H E
  have I : Inv X [] (start N vs) H t := inv_start S hr.rm.hd env (len _ _ _ _ hs) rel inC
  have cx : CxI P w K mg base k VL VL GL E X := ⟨rfl, rfl, rfl, rfl, rfl, S.nd, by subst hns; exact ok, fun _ => .inl rfl, hr.rm.deeper _, gd_deeper hr.gd, rfl, passes_of rfl, takes_of rfl rfl rfl rfl, hbl⟩
  have done : ∀ {σ' : St} {H' : Hp} {v : V} {u : Value} {t' : Shared}, Inv X [] σ' H' t' → RelV v u → Q v H' → CE outer P w H s Q u t' := fun J rv q => ⟨_, _, J.os, J.bare, J.base, J.hok, rv, q⟩
  refine wpAny_mono (h X H vs Q E cx ⟨rfl, hns, S.kind⟩ hs [] t I) (fun fl t' q => ?_) fun _ _ q => q
  cases fl with
  | next =>
    obtain ⟨σ', H', J, q⟩ := q
    exact done (v := V.non) (u := Value.none) J rfl q
  | ret u =>
    obtain ⟨v, σ', H', J, rv, q⟩ := q
    exact done J rv q
  | brk =>
    obtain ⟨_, _, _, q⟩ := q
    exact q.elim
  | cont =>
    obtain ⟨_, _, _, q⟩ := q
    exact q.elim
theorem fn_okW {x qual : Str} {st : Stmt} {f : Addr} {fd : FuncData} {N ps : List Str} {k : Nat} {sp : Sp} {ns : List (Str × NameKind)} {VL : List (Option Str)} {GL : List Str} (F : Fun K x qual st f fd) (S : FnScope N ps (defScope st)) (hns : (defScope st).names = ns)
    (ok : okAll N ns VL VL GL = true) (hbl : ∀ x ∈ blts, mg x = none) (len : ∀ vs H Q E, sp vs H Q E → vs.length = ps.length)
    (h : ∀ (X : Cx) (H : Hp) (vs : List V) (Q : VK) (E : XK), CxI P w K mg base k VL VL GL E X → sp vs H Q E → Wss X (defBody st) ⟨fun _ H' => Q .non H', Q, fun _ _ => False, fun _ _ => False⟩ (start N vs) H) : Fk P w K mg base (k + 1) f fd ps sp :=
  fn_okC F S hns ok hbl len fun X H vs Q E cx _ hs => h X H vs Q E cx hs
/-- a def is run from a body, under work of its own -/
theorem Fk.go {X : Cx} {pins : List (Addr × Obj)} {σ : St} {H : Hp} {s : Shared} {Q : VK} {E : XK} {A : Around} {E' : Value → Shared → Prop} {j : Nat} {f : Addr} {fd : FuncData} {ps : List Str} {sp : Sp} {args : Args} {us : List Value} {vs : List V}
    (F : Fk X.prog X.w X.K X.mg X.base j f fd ps sp) (hA : A.frames = some X.stack) (hr : RmG j A) (I : Inv X pins σ H s) (hb : BindsTo s fd args (ps.zip us)) (r : Vals vs us) (h : sp vs H Q E) (hx : ∀ e s', L2.CX X.prog X.w X.stack H s E e s' → E' e s') :
    codeAny (model X.prog X.w) A (.call (.ref f) args) (fun r s' => match r with | .ok (.ret u) => EP X pins σ Q u s' | .ok _ => False | .error e => E' e s') s := by
  have e := I.env0
  refine codeAny_mono (F.run A X.stack s H args us vs Q E hr ⟨hA, e.mod, e.bs, e.bsz, e.funs, e.frf, e.hok, e.bare⟩ hb r h) fun r s' hq => ?_
  match r, hq with
  | .error e, hq => exact hx e s' hq
  | .ok (.ret u), hq => exact I.after hq
  | .ok .next, hq => exact hq.elim
  | .ok .brk, hq => exact hq.elim
  | .ok .cont, hq => exact hq.elim
theorem Fk.call {X : Cx} {pins : List (Addr × Obj)} {σ : St} {H : Hp} {s : Shared} {Q : VK} {E : XK} {A : Around} {E' : Value → Shared → Prop} {j : Nat} {f : Addr} {fd : FuncData} {ps : List Str} {sp : Sp} {us : List Value} {vs : List V}
    (F : Fk X.prog X.w X.K X.mg X.base j f fd ps sp) (hA : A.frames = some X.stack) (hr : RmG j A) (I : Inv X pins σ H s) (hb : Binds X.K fd ps []) (r : Vals vs us) (h : sp vs H Q E) (hx : ∀ e s', L2.CX X.prog X.w X.stack H s E e s' → E' e s') :
    wpAny (model X.prog X.w) A (PySem.call (.ref f) us) (EP X pins σ Q) E' s := by
  have hl : us.length = ps.length := by rw [← r.length]; exact F.len _ _ _ _ h
  refine wpAny_call (codeAny_mono (F.go hA hr I (args := ⟨us, []⟩) (us := us) ?_ r h hx) fun r s' hq => ?_)
  · have q := hb s us I.kIn (by rw [List.append_nil]; exact hl)
    rw [List.append_nil] at q
    exact q
  · match r, hq with
    | .error e, hq => exact hq
    | .ok (.ret u), hq => exact hq
/-- a def of the module -/
def Df (P : Program) (w : World) (K : PySem.W.Frag) (mg : Str → Option Value) (base : Heap) (x : Str) (j : Nat) (ps : List Str) (sp : Sp) : Prop :=
  ∃ f fd, Fk P w K mg base j f fd ps sp ∧ Binds K fd ps [] ∧ PySem.W.keepIn K (.ref f) = true ∧ mg x = some (.ref f)
/-- a method of the class at C -/
def Mt (P : Program) (w : World) (K : PySem.W.Frag) (mg : Str → Option Value) (base : Heap) (C : Addr) (x : Str) (j : Nat) (ps : List Str) (sp : Sp) : Prop :=
  ∃ f fd, Fk P w K mg base j f fd ps sp ∧ Binds K fd ps [] ∧ Meth K C x f
/-- a class with its own __init__ -/
def Cl (P : Program) (w : World) (K : PySem.W.Frag) (mg : Str → Option Value) (base : Heap) (C : Addr) (x : Str) (j : Nat) (ps : List Str) (sp : Sp) : Prop :=
  ∃ f fd, Fk P w K mg base j f fd ps sp ∧ Binds K fd ps [] ∧ Mk K C f ∧ mg x = some (.ref C)
/-- a property of the class at C -/
def Pr (P : Program) (w : World) (K : PySem.W.Frag) (mg : Str → Option Value) (base : Heap) (C : Addr) (x : Str) (j : Nat) (sp : Sp) : Prop :=
  ∃ p f fd, Fk P w K mg base j f fd ["self"] sp ∧ Binds K fd ["self"] [] ∧ PropOf K C x p f

variable {k : Nat} {VL AL : List (Option Str)} {GL : List Str} {E : XK} {X : Cx} {σ : St} {H : Hp} {Q : VK} {pos p : Pos} {e : Expr} {es : List Expr} {x : Str} {j : Nat} {ps : List Str} {sp : Sp}
theorem CxI.rg (cx : CxI P w K mg base k VL AL GL E X) : RmG k X.A := ⟨cx.room, cx.gd⟩
theorem CxI.rg' (cx : CxI P w K mg base k VL AL GL E X) {j : Nat} (h : j ≤ k) : RmG j X.A := ⟨cx.room.mono h, cx.gd⟩
/-- an exception of a callee goes on -/
theorem CxI.thru (cx : CxI P w K mg base k VL AL GL E X) {pins : List (Addr × Obj)} {s : Shared} (I : Inv X pins σ H s) : ∀ e s', L2.CX X.prog X.w X.stack H s E e s' → X.xe e s' := fun e s' c => passAt cx.tk σ pins H s e s' I c
theorem frm_ {pins : List (Addr × Obj)} {s : Shared} (I : Inv X pins σ H s) : X.A.frames = some X.stack := I.env0.frames
theorem w_call (cx : CxI P w K mg base k VL AL GL E X) (hg : In x GL) (d : Df P w K mg base x j ps sp) (hj : Nat.ble j k = true) (h : Wa X (e :: es) σ H fun vs H1 => sp vs H1 Q E) (he : starEach (e :: es) X.env = (false, eval e X.env) :: starEach es X.env := by kernel_rfl)
    (hpl : (backTo pos (starEach es X.env)).any (·.1) = false := by kernel_rfl) : We X (.Call (.Name x p) (e :: es) [] pos) σ H Q := by
  obtain ⟨f, fd, F, b, kp, hm⟩ := d
  have g := cx.gl hg
  have r := cx.rg' (Nat.le_of_ble_eq_true hj)
  have th := @CxI.thru P w K mg base k VL AL GL E X
  have cx' := cx
  obtain ⟨e1, e2, e3, e4, e5, _⟩ := cx
  subst e1; subst e2; subst e3; subst e4; subst e5
  intro pins s I
  refine wpAny_Call_Name_kw (ld_glob I g.1 hm ?_ g.2)
  exact PySem.W.callWith_K (h₀ := X.base) I.ok.mod.kin kp (thn (h pos pins s I) fun us s1 ⟨vs, H1, I1, rr, q⟩ => ⟨I1.kIn, F.call (frm_ I1) r I1 b rr q (cx'.thru I1)⟩) he hpl
/-- what is wanted behind __init__ of the new thing y -/
def MkQ (Q : VK) (y : Addr) : VK := fun v H2 => v = .non ∧ Q (.ref y) H2
theorem w_make (cx : CxI P w K mg base k VL AL GL E X) {C : Addr} (hg : In x GL) (d : Cl P w K mg base C x j ps sp) (hj : Nat.ble (j + 1) k = true) (h : Wa X (e :: es) σ H fun vs H1 => ∀ y dx, H1 y = none → H1 dx = none → dx ≠ y → sp (.ref y :: vs) (upd (upd H1 dx (.own y)) y (.ins C dx [])) (MkQ Q y) E)
    (he : starEach (e :: es) X.env = (false, eval e X.env) :: starEach es X.env := by kernel_rfl) (hpl : (backTo pos (starEach es X.env)).any (·.1) = false := by kernel_rfl) : We X (.Call (.Name x p) (e :: es) [] pos) σ H Q := by
  obtain ⟨f, fd, F, b, mk, hm⟩ := d
  have g := cx.gl hg
  have r := cx.rg' (Nat.le_of_ble_eq_true hj)
  have cx' := cx
  obtain ⟨e1, e2, e3, e4, e5, _⟩ := cx
  subst e1; subst e2; subst e3; subst e4; subst e5
  intro pins s I
  refine wpAny_Call_Name_kw (ld_glob I g.1 hm ?_ g.2)
  refine PySem.W.callWith_K (h₀ := X.base) I.ok.mod.kin mk.kp (thn (h pos pins s I) fun us s1 ⟨vs, H1, I1, rr, q⟩ => ⟨I1.kIn, ?_⟩) he hpl
  have q1 := q (s1.heap.objs.size + 1) s1.heap.objs.size (I1.hok.fresh (Nat.le_succ _)) (I1.hok.fresh (Nat.le_refl _)) (Nat.ne_of_lt (Nat.lt_succ_self _))
  have I2 := Inv.made (C := C) I1
  have rel : Vals (V.ref (s1.heap.objs.size + 1) :: vs) (Value.ref (s1.heap.objs.size + 1) :: us) := .cons rfl rr
  refine wpAny_call (make_map (f := f) I1.kIn mk.makes mk.init (beq_iff_eq.mp mk.fn) (codeAny_mono (F.go (A := X.A.under (.builtin "type.__call__" ⟨.ref C :: us, []⟩)) (E' := X.xe) (us := Value.ref (s1.heap.objs.size + 1) :: us) ?_ (r.make C us []) I2 ?_ rel q1 (cx'.thru I2)) fun r s' hq => ?_))
  · have z := (I2.env0.make C us []).frames
    exact z
  · have z := b _ (Value.ref (s1.heap.objs.size + 1) :: us) I2.kIn (by rw [List.append_nil, ← rel.length]; exact F.len _ _ _ _ q1)
    rw [List.append_nil] at z
    exact z
  · match r, hq with
    | .error e, hq => exact hq
    | .ok (.ret u), hq =>
      obtain ⟨v, H', I3, rv, ev, q3⟩ := hq
      subst ev
      exact ⟨rv, ⟨V.ref (s1.heap.objs.size + 1), H', I3, rfl, q3⟩⟩
theorem w_meth (cx : CxI P w K mg base k VL AL GL E X) {C : Addr} (cl : Cls K C) {o : Expr} {m : Str} {apos : Pos} {pl : Sem Bool} (d : Mt P w K mg base C m j ps sp) (hj : Nat.ble j k = true)
    (h : We X o σ H fun x H1 => ∃ a dx fs, x = .ref a ∧ H1 a = some (.ins C dx fs) ∧ fs.lookup m = none ∧ Wa X (e :: es) σ H1 fun vs H2 => sp (x :: vs) H2 Q E)
    (hst : starEach (e :: es) X.env = (false, eval e X.env) :: starEach es X.env := by kernel_rfl) (hpl : (backTo pos (starEach es X.env)).any (·.1) = false := by kernel_rfl)
    (ht : eval (.Call (.Attribute o m apos) (e :: es) [] pos) X.env = (do
      let ov ← eval o X.env
      standAt apos.atName
      let (f, first) ← holding [ov] (getMethod ov m pl)
      callWith pos f first (backTo pos (starEach (e :: es) X.env)) (backToKw pos (keywordEach [] X.env))) := by with_unfolding_all rfl) : We X (.Call (.Attribute o m apos) (e :: es) [] pos) σ H Q := by
  obtain ⟨f, fd, F, b, hm⟩ := d
  have r := cx.rg' (Nat.le_of_ble_eq_true hj)
  have cx' := cx
  obtain ⟨e1, e2, e3, e4, e5, _⟩ := cx
  subst e1; subst e2; subst e3; subst e4; subst e5
  intro pins s I
  refine PySem.W.methodCall_KW (pl := pl) (thn (h pins s I) fun u s1 ⟨x, H1, I1, rx, a, dx, fs, ex, ea, l, q⟩ => ?_) ht
  subst ex
  cases (show u = Value.ref a from rx)
  refine getmeth_ok I1 ea cl hm l (PySem.W.callWith_K (first := [.ref a]) (h₀ := X.base) I.ok.mod.kin hm.kp (thn (q pos pins s1 I1) fun us s2 ⟨vs, H2, I2, rr, q2⟩ => ⟨I2.kIn, ?_⟩) hst hpl)
  exact F.call (us := .ref a :: us) (vs := .ref a :: vs) (frm_ I2) r I2 b (.cons rfl rr) q2 (cx'.thru I2)
theorem w_meth0 (cx : CxI P w K mg base k VL AL GL E X) {C : Addr} (cl : Cls K C) {o : Expr} {m : Str} {apos : Pos} {pl : Sem Bool} (d : Mt P w K mg base C m j ps sp) (hj : Nat.ble j k = true)
    (h : We X o σ H fun x H1 => ∃ a dx fs, x = .ref a ∧ H1 a = some (.ins C dx fs) ∧ fs.lookup m = none ∧ sp [x] H1 Q E)
    (ht : eval (.Call (.Attribute o m apos) [] [] pos) X.env = (do
      let ov ← eval o X.env
      standAt apos.atName
      let (f, first) ← holding [ov] (getMethod ov m pl)
      callWith pos f first (backTo pos (starEach [] X.env)) (backToKw pos (keywordEach [] X.env))) := by with_unfolding_all rfl) : We X (.Call (.Attribute o m apos) [] [] pos) σ H Q := by
  obtain ⟨f, fd, F, b, hm⟩ := d
  have r := cx.rg' (Nat.le_of_ble_eq_true hj)
  have cx' := cx
  obtain ⟨e1, e2, e3, e4, e5, _⟩ := cx
  subst e1; subst e2; subst e3; subst e4; subst e5
  intro pins s I
  refine PySem.W.methodCall_KW (pl := pl) (thn (h pins s I) fun u s1 ⟨x, H1, I1, rx, a, dx, fs, ex, ea, l, q⟩ => ?_) ht
  subst ex
  cases (show u = Value.ref a from rx)
  refine getmeth_ok I1 ea cl hm l (PySem.W.callWith_K0 (first := [.ref a]) I1.kIn hm.kp ?_)
  exact F.call (us := [.ref a]) (vs := [.ref a]) (frm_ I1) r I1 b (.cons rfl .nil) q (cx'.thru I1)
/-! ### attributes by values -/
def Wat (X : Cx) (x : V) (f : Str) (H : Hp) (Q : VK) : Prop := ∀ (pins : List (Addr × Obj)) (s : Shared) (σ : St) (v : Value), Inv X pins σ H s → RelV x v → wpAny (model X.prog X.w) X.A (getAttr v f true) (EP X pins σ Q) X.xe s
theorem w_attr {f : Str} (h : We X e σ H fun x H1 => Wat X x f H1 Q) (hb : attributeBase e f X.env (eval e X.env) = eval e X.env := by kernel_rfl) : We X (.Attribute e f pos) σ H Q :=
  fun pins s I => attr_of hb (thn (h pins s I) fun u s1 ⟨x, H1, I1, rx, q⟩ => q pins s1 σ u I1 rx)
theorem at_fld (cx : CxI P w K mg base k VL AL GL E X) {a C dx : Addr} {fs : List (Str × V)} {f : Str} {v : V} (cl : Cls K C) (n : NoAttr K C f) (ha : H a = some (.ins C dx fs)) (hl : fs.lookup f = some v) (h : Q v H) : Wat X (.ref a) f H Q := by
  intro pins s σ u I r
  obtain rfl : u = Value.ref a := r
  have e3 := cx.eK
  subst e3
  exact getattr_ok I ha cl n hl fun u' s2 I2 ru => ⟨v, H, I2, ru, h⟩
theorem at_con (cx : CxI P w K mg base k VL AL GL E X) {a C dx : Addr} {fs : List (Str × V)} {f : Str} {v : V} {u : Value} (cl : Cls K C) (c : Con K C f v u) (ha : H a = some (.ins C dx fs)) (hl : fs.lookup f = none) (h : Q v H) : Wat X (.ref a) f H Q := by
  intro pins s σ u I r
  obtain rfl : u = Value.ref a := r
  have e3 := cx.eK
  subst e3
  exact getcon_ok I ha cl c hl fun s2 I2 => ⟨v, H, I2, c.rel, h⟩
theorem at_cval (cx : CxI P w K mg base k VL AL GL E X) {C : Addr} {mc : Value} {f : Str} {v : V} {u : Value} (r : ClX.CRead K C mc) (c : ClX.CVal K C mc f v u) (h : Q v H) : Wat X (.ref C) f H Q := by
  intro pins s σ u I r
  obtain rfl : u = Value.ref C := r
  have e3 := cx.eK
  subst e3
  exact ClX.getcval_ok I (by assumption) c fun s2 I2 => ⟨v, H, I2, c.rel, h⟩
theorem at_prop (cx : CxI P w K mg base k VL AL GL E X) {a C dx : Addr} {fs : List (Str × V)} {f : Str} (cl : Cls K C) (d : Pr P w K mg base C f j sp) (hj : Nat.ble (j + 1) k = true) (ha : H a = some (.ins C dx fs)) (h : sp [.ref a] H Q E0) : Wat X (.ref a) f H Q := by
  intro pins s σ u I r
  cases (show u = Value.ref a from r)
  obtain ⟨p, g, fd, F, b, hm⟩ := d
  have rg := cx.rg' (Nat.le_of_ble_eq_true hj)
  obtain ⟨e1, e2, e3, e4, e5, _⟩ := cx
  subst e1; subst e2; subst e3; subst e4; subst e5
  obtain ⟨mA, O, _⟩ := ins_get I.hok ha
  obtain ⟨od, J, _⟩ := O.look
  obtain ⟨rest, hrec⟩ := hm.rec_
  have hc : (PySem.W.clsIn X.K C).isSome = true := by
    obtain ⟨cd, hc, _⟩ := PySem.W.any_some cl.hd
    rw [hc]
    rfl
  have I1 := I.tok (s.toks + 1)
  have pg := PySem.W.plainGet_of (cl.get f)
  refine PySem.W.get_bind I.kIn J pg.1 (PySem.W.findObj_data hc hm.at_ hm.get hm.tak) pg.2 (wpAny_call (PySem.W.prop_get (s := { s with toks := s.toks + 1 }) I.kIn hrec ?_))
  refine codeAny_mono (F.go (A := X.A.in1) (E' := fun _ _ => False) (us := [.ref a]) (args := ⟨[.ref a], []⟩) I1.env0.in1.frames rg.in1 I1 (b _ [.ref a] I1.kIn rfl) (vs := [.ref a]) (.cons (a := V.ref a) rfl .nil) h fun e s' c => ?_) fun r s' hq => ?_
  · obtain ⟨_, _, _, _, _, _, _, _, _, _, _, _, z⟩ := c
    exact z
  · match r, hq with
    | .ok (.ret u), ⟨v, H', I3, rv, q3⟩ => exact wpAny_of_eq (PySem.W.handedOut_of (handed_of rv)) ⟨v, H', I3, rv, q3⟩
/-! ### stores -/
theorem putF_len (f : Str) (y : V) : ∀ fs : List (Str × V), (putF f y fs).length ≤ fs.length + 1
  | [] => by simp [putF]
  | (g, z) :: r => by
    have ih := putF_len f y r
    unfold putF
    split <;> simp <;> omega
inductive FL : List (Str × V) → Nat → Prop
  | z : FL [] 0
  | s {f y fs n} : FL fs n → FL (putF f y fs) (n + 1)
theorem FL.le {fs : List (Str × V)} {n : Nat} (h : FL fs n) : fs.length ≤ n := by
  induction h with
  | z => exact Nat.le_refl _
  | s _ ih => exact Nat.le_trans (putF_len _ _ _) (Nat.succ_le_succ ih)
def FldSt (C : Addr) (f : Str) (x y : V) (H : Hp) (R : Hp → Prop) : Prop := ∃ a dx fs, x = .ref a ∧ H a = some (.ins C dx fs) ∧ fs.length < 1000 ∧ R (upd H a (.ins C dx (putF f y fs)))
theorem s_fld (cx : CxI P w K mg base k VL AL GL E X) {o value : Expr} {f : Str} {pos' : Pos} {nx : St → Hp → Prop} {rt : VK} {bk ct : St → Hp → Prop} {rest : List Stmt} {C : Addr} (cl : Cls K C) (n : NoAttr K C f)
    (h : We X value σ H fun y H1 => We X o σ H1 fun x H2 => FldSt C f x y H2 fun H3 => Wss X rest ⟨nx, rt, bk, ct⟩ σ H3)
    (hs : swapsWith value (some (.Attribute o f pos')) pos.line X.env = pure false := by kernel_rfl) : Wss X (.Assign [.Attribute o f pos'] value pos :: rest) ⟨nx, rt, bk, ct⟩ σ H := by
  have e3 := cx.eK
  subst e3
  refine s_cons (ofPS (ps_fld peU peU hs) ?_)
  refine fun pins s I => thn (h pins s I) fun u s1 ⟨y, H1, I1, r1, q⟩ => ⟨y, H1, I1, r1, ?_⟩
  refine fun pins s I => thn (q pins s I) fun u s1 ⟨x, H2, I2, r2, a, dx, fs, e, ha, hl, q2⟩ => ⟨x, H2, I2, r2, a, C, dx, fs, e, ha, cl, n, hl, q2⟩
theorem k_sfld {C dx a : Addr} {f : Str} {y : V} {fs : List (Str × V)} {R : Hp → Prop} {M M' : List (Addr × (HO → Prop))} {L : List (Addr × Obj)} {n : Nat} {S : Hp → Prop} (kn : Kn R M L H) (hp : Put a (Is (.ins C dx fs)) (Is (.ins C dx (putF f y fs))) M M') (hl : FL fs n) (hn : Nat.ble n 999 = true)
    (h : ∀ H', Kn R M' L H' → S H') : FldSt C f (.ref a) y H S :=
  ⟨a, dx, fs, rfl, kn.is hp.has, Nat.lt_of_le_of_lt hl.le (Nat.lt_succ_of_le (Nat.le_of_ble_eq_true hn)), h _ (kn.write hp rfl)⟩
/-! ### places in written sequences -/
theorem at0 {α : Type} {a : α} {l : List α} : atI (a :: l) 0 = some a := by
  unfold atI ixN
  simp
theorem at1 {α : Type} {a b : α} {l : List α} : atI (a :: b :: l) 1 = some b := by
  unfold atI ixN
  have z : (1 : Int) < ((a :: b :: l).length : Int) := by simp only [List.length_cons]; omega
  rw [if_pos (by decide), if_pos z]
  rfl
theorem at2 {α : Type} {a b c : α} {l : List α} : atI (a :: b :: c :: l) 2 = some c := by
  unfold atI ixN
  have z : (2 : Int) < ((a :: b :: c :: l).length : Int) := by simp only [List.length_cons]; omega
  rw [if_pos (by decide), if_pos z]
  rfl
theorem ix0 {n : Nat} (h : 0 < n) : ixN n 0 = some 0 := by
  unfold ixN
  rw [if_pos (by decide), if_pos (by omega)]
  rfl
theorem ix1 {n : Nat} (h : 1 < n) : ixN n 1 = some 1 := by
  unfold ixN
  rw [if_pos (by decide), if_pos (by omega)]
  rfl
theorem ix2 {n : Nat} (h : 2 < n) : ixN n 2 = some 2 := by
  unfold ixN
  rw [if_pos (by decide), if_pos (by omega)]
  rfl
/-! ### ints -/
theorem o_add {i j : Int} (h : Q (.int (i + j)) H) : Wop X (binaryOp .Add) (.int i) (.int j) H Q := ofOp op_add ⟨i, j, rfl, rfl, h⟩
theorem o_sub {i j : Int} (h : Q (.int (i - j)) H) : Wop X (binaryOp .Sub) (.int i) (.int j) H Q := ofOp op_sub ⟨i, j, rfl, rfl, h⟩
theorem o_mulL {i j : Int} (hc : -(18446744073709551616) < i ∧ i < 18446744073709551616) (h : Q (.int (i * j)) H) : Wop X (binaryOp .Mult) (.int i) (.int j) H Q := ofOp op_mul ⟨i, j, rfl, rfl, .inl hc, h⟩
theorem o_mulR {i j : Int} (hc : -(18446744073709551616) < j ∧ j < 18446744073709551616) (h : Q (.int (i * j)) H) : Wop X (binaryOp .Mult) (.int i) (.int j) H Q := ofOp op_mul ⟨i, j, rfl, rfl, .inr hc, h⟩
theorem o_mulX {i j : Int} {a b : Nat} (ha : i.natAbs < 2 ^ a) (hb : j.natAbs < 2 ^ b) (hab : a + b ≤ 134217728) (h : Q (.int (i * j)) H) : Wop X (binaryOp .Mult) (.int i) (.int j) H Q := ofOp op_mulX ⟨i, j, rfl, rfl, mulx_ok ha hb hab, h⟩
theorem o_fdiv {i j : Int} (hc : 0 < j ∧ j < 1073741824) (h : Q (.int (i / j)) H) : Wop X (binaryOp .FloorDiv) (.int i) (.int j) H Q := ofOp op_fdiv ⟨i, j, rfl, rfl, hc, h⟩
theorem o_fdivW {i j : Int} (b : Nat) (hp : 0 < j) (hb : j < 2 ^ b) (h0 : 0 < b) (h9 : b ≤ 9000) (h : Q (.int (i / j)) H) : Wop X (binaryOp .FloorDiv) (.int i) (.int j) H Q := by
  refine ofOp op_fdivW ⟨i, j, rfl, rfl, wide_div hp (b := b) ?_ h0 h9, h⟩
  have e : (j.natAbs : Int) = j := by omega
  have z : ((j.natAbs : Nat) : Int) < ((2 ^ b : Nat) : Int) := by rw [e]; exact_mod_cast hb
  exact Int.ofNat_lt.mp z
theorem o_fdivB {i j : Int} (hc : 0 < j ∧ j < 1361129467683753853853498429727072845824) (h : Q (.int (i / j)) H) : Wop X (binaryOp .FloorDiv) (.int i) (.int j) H Q := o_fdivW 130 hc.1 hc.2 (by decide) (by decide) h
theorem o_mod {i j : Int} (hc : 0 < j) (h : Q (.int (i % j)) H) : Wop X (binaryOp .Mod) (.int i) (.int j) H Q := ofOp op_mod ⟨i, j, rfl, rfl, hc, h⟩
theorem o_pow {i j z : Int} (hz : i ^ j.toNat = z) (h0 : 0 ≤ j) (hc : (Builtin.Int.intBits i : Int) * j ≤ 2 ^ 27) (h : Q (.int z) H) : Wop X (binaryOp .Pow) (.int i) (.int j) H Q := by
  intro pins s σ v u I r1 r2
  obtain ⟨t, rfl⟩ := r1
  obtain ⟨t', rfl⟩ := r2
  subst hz
  exact pow_int h0 hc ⟨.int _, H, I.tok _, ⟨_, rfl⟩, h⟩
theorem o_neg {i : Int} (h : Q (.int (-i)) H) : Wun X (unaryOp .USub) (.int i) H Q := ofUn un_neg ⟨i, rfl, h⟩
theorem o_lt {i j : Int} (h : Q (.bl (decide (i < j))) H) : Wop X (compareOp .Lt) (.int i) (.int j) H Q := ofOp op_lt ⟨i, j, rfl, rfl, h⟩
theorem o_le {i j : Int} (h : Q (.bl (decide (i ≤ j))) H) : Wop X (compareOp .LtE) (.int i) (.int j) H Q := ofOp op_le ⟨i, j, rfl, rfl, h⟩
theorem o_gt {i j : Int} (h : Q (.bl (decide (j < i))) H) : Wop X (compareOp .Gt) (.int i) (.int j) H Q := ofOp op_gt ⟨i, j, rfl, rfl, h⟩
theorem o_ge {i j : Int} (h : Q (.bl (decide (j ≤ i))) H) : Wop X (compareOp .GtE) (.int i) (.int j) H Q := ofOp op_ge ⟨i, j, rfl, rfl, h⟩
theorem o_eqI {i j : Int} (h : Q (.bl (decide (i = j))) H) : Wop X (compareOp .Eq) (.int i) (.int j) H Q := ofOp op_eq ⟨rfl, by rw [show decide (V.int i = V.int j) = decide (i = j) from by simp]; exact h⟩
theorem o_neI {i j : Int} (h : Q (.bl (!decide (i = j))) H) : Wop X (compareOp .NotEq) (.int i) (.int j) H Q := ofOp op_ne ⟨rfl, by rw [show decide (V.int i = V.int j) = decide (i = j) from by simp]; exact h⟩
theorem o_eqS {i j : Str} (h : Q (.bl (decide (i = j))) H) : Wop X (compareOp .Eq) (.str i) (.str j) H Q := ofOp op_eq ⟨rfl, by rw [show decide (V.str i = V.str j) = decide (i = j) from by simp]; exact h⟩
theorem o_neS {i j : Str} (h : Q (.bl (!decide (i = j))) H) : Wop X (compareOp .NotEq) (.str i) (.str j) H Q := ofOp op_ne ⟨rfl, by rw [show decide (V.str i = V.str j) = decide (i = j) from by simp]; exact h⟩
theorem o_isN {v : V} (h : Q (.bl (decide (v = .non))) H) : Wop X (compareOp .Is) v .non H Q := ofOp op_isN ⟨rfl, h⟩
theorem o_notN {v : V} (h : Q (.bl (!decide (v = .non))) H) : Wop X (compareOp .IsNot) v .non H Q := ofOp op_notN ⟨rfl, h⟩
theorem o_addS {i j : Str} (hl : i.length + j.length ≤ sizeLine) (h : Q (.str (i ++ j)) H) : Wop X (binaryOp .Add) (.str i) (.str j) H Q := ofOp op_add_str ⟨i, j, rfl, rfl, hl, h⟩
theorem o_addSn {i j : Str} {m n : Nat} (h1 : i.length ≤ m) (h2 : j.length ≤ n) (hn : Nat.ble (m + n) 16777216 = true) (h : Q (.str (i ++ j)) H) : Wop X (binaryOp .Add) (.str i) (.str j) H Q := o_addS (Nat.le_trans (Nat.add_le_add h1 h2) (Nat.le_of_ble_eq_true hn)) h
/-! ### builtins -/
theorem w_bltn (cx : CxI P w K mg base k VL AL GL E X) {id : String} (hg : In x GL) (hv : bootBuiltins x = some (.builtin id)) (h : Wa X (e :: es) σ H fun vs H1 => Wcall X (.builtin id) vs H1 Q) (hx : x ∈ blts := by decide +kernel)
    (hn : x ≠ "__name__" := by decide +kernel) (he : starEach (e :: es) X.env = (false, eval e X.env) :: starEach es X.env := by kernel_rfl) (hpl : (backTo pos (starEach es X.env)).any (·.1) = false := by kernel_rfl) :
    We X (.Call (.Name x p) (e :: es) [] pos) σ H Q := ofPE (pe_callB callU (cx.gl hg).1 (cx.bltn hx) hv paU hn (cx.gl hg).2 he hpl) h
theorem w_bltT (cx : CxI P w K mg base k VL AL GL E X) {id : String} (hg : In x GL) (hv : bootBuiltins x = some (.type id)) (h : Wa X (e :: es) σ H fun vs H1 => Wcall X (.type id) vs H1 Q) (hx : x ∈ blts := by decide +kernel)
    (hn : x ≠ "__name__" := by decide +kernel) (he : starEach (e :: es) X.env = (false, eval e X.env) :: starEach es X.env := by kernel_rfl) (hpl : (backTo pos (starEach es X.env)).any (·.1) = false := by kernel_rfl) :
    We X (.Call (.Name x p) (e :: es) [] pos) σ H Q := ofPE (pe_callTy callU (cx.gl hg).1 (cx.bltn hx) hv paU hn (cx.gl hg).2 he hpl) h
/-! builtins by name -/
theorem w_len (cx : CxI P w K mg base k VL AL GL E X) (hg : In ("len" : Str) GL) (h : Wa X (e :: es) σ H fun vs H1 => Wcall X (.builtin "len") vs H1 Q) (he : starEach (e :: es) X.env = (false, eval e X.env) :: starEach es X.env := by kernel_rfl) (hpl : (backTo pos (starEach es X.env)).any (·.1) = false := by kernel_rfl) : We X (.Call (.Name "len" p) (e :: es) [] pos) σ H Q := w_bltn cx hg (by rfl) h (by decide +kernel) (by decide +kernel) he hpl
theorem w_max (cx : CxI P w K mg base k VL AL GL E X) (hg : In ("max" : Str) GL) (h : Wa X (e :: es) σ H fun vs H1 => Wcall X (.builtin "max") vs H1 Q) (he : starEach (e :: es) X.env = (false, eval e X.env) :: starEach es X.env := by kernel_rfl) (hpl : (backTo pos (starEach es X.env)).any (·.1) = false := by kernel_rfl) : We X (.Call (.Name "max" p) (e :: es) [] pos) σ H Q := w_bltn cx hg (by rfl) h (by decide +kernel) (by decide +kernel) he hpl
theorem w_min (cx : CxI P w K mg base k VL AL GL E X) (hg : In ("min" : Str) GL) (h : Wa X (e :: es) σ H fun vs H1 => Wcall X (.builtin "min") vs H1 Q) (he : starEach (e :: es) X.env = (false, eval e X.env) :: starEach es X.env := by kernel_rfl) (hpl : (backTo pos (starEach es X.env)).any (·.1) = false := by kernel_rfl) : We X (.Call (.Name "min" p) (e :: es) [] pos) σ H Q := w_bltn cx hg (by rfl) h (by decide +kernel) (by decide +kernel) he hpl
theorem w_abs (cx : CxI P w K mg base k VL AL GL E X) (hg : In ("abs" : Str) GL) (h : Wa X (e :: es) σ H fun vs H1 => Wcall X (.builtin "abs") vs H1 Q) (he : starEach (e :: es) X.env = (false, eval e X.env) :: starEach es X.env := by kernel_rfl) (hpl : (backTo pos (starEach es X.env)).any (·.1) = false := by kernel_rfl) : We X (.Call (.Name "abs" p) (e :: es) [] pos) σ H Q := w_bltn cx hg (by rfl) h (by decide +kernel) (by decide +kernel) he hpl
theorem w_repr (cx : CxI P w K mg base k VL AL GL E X) (hg : In ("repr" : Str) GL) (h : Wa X (e :: es) σ H fun vs H1 => Wcall X (.builtin "repr") vs H1 Q) (he : starEach (e :: es) X.env = (false, eval e X.env) :: starEach es X.env := by kernel_rfl) (hpl : (backTo pos (starEach es X.env)).any (·.1) = false := by kernel_rfl) : We X (.Call (.Name "repr" p) (e :: es) [] pos) σ H Q := w_bltn cx hg (by rfl) h (by decide +kernel) (by decide +kernel) he hpl
theorem w_isinstance (cx : CxI P w K mg base k VL AL GL E X) (hg : In ("isinstance" : Str) GL) (h : Wa X (e :: es) σ H fun vs H1 => Wcall X (.builtin "isinstance") vs H1 Q) (he : starEach (e :: es) X.env = (false, eval e X.env) :: starEach es X.env := by kernel_rfl) (hpl : (backTo pos (starEach es X.env)).any (·.1) = false := by kernel_rfl) : We X (.Call (.Name "isinstance" p) (e :: es) [] pos) σ H Q := w_bltn cx hg (by rfl) h (by decide +kernel) (by decide +kernel) he hpl
theorem w_sorted (cx : CxI P w K mg base k VL AL GL E X) (hg : In ("sorted" : Str) GL) (h : Wa X (e :: es) σ H fun vs H1 => Wcall X (.builtin "sorted") vs H1 Q) (he : starEach (e :: es) X.env = (false, eval e X.env) :: starEach es X.env := by kernel_rfl) (hpl : (backTo pos (starEach es X.env)).any (·.1) = false := by kernel_rfl) : We X (.Call (.Name "sorted" p) (e :: es) [] pos) σ H Q := w_bltn cx hg (by rfl) h (by decide +kernel) (by decide +kernel) he hpl
theorem w_all (cx : CxI P w K mg base k VL AL GL E X) (hg : In ("all" : Str) GL) (h : Wa X (e :: es) σ H fun vs H1 => Wcall X (.builtin "all") vs H1 Q) (he : starEach (e :: es) X.env = (false, eval e X.env) :: starEach es X.env := by kernel_rfl) (hpl : (backTo pos (starEach es X.env)).any (·.1) = false := by kernel_rfl) : We X (.Call (.Name "all" p) (e :: es) [] pos) σ H Q := w_bltn cx hg (by rfl) h (by decide +kernel) (by decide +kernel) he hpl
theorem w_any (cx : CxI P w K mg base k VL AL GL E X) (hg : In ("any" : Str) GL) (h : Wa X (e :: es) σ H fun vs H1 => Wcall X (.builtin "any") vs H1 Q) (he : starEach (e :: es) X.env = (false, eval e X.env) :: starEach es X.env := by kernel_rfl) (hpl : (backTo pos (starEach es X.env)).any (·.1) = false := by kernel_rfl) : We X (.Call (.Name "any" p) (e :: es) [] pos) σ H Q := w_bltn cx hg (by rfl) h (by decide +kernel) (by decide +kernel) he hpl
theorem w_sum (cx : CxI P w K mg base k VL AL GL E X) (hg : In ("sum" : Str) GL) (h : Wa X (e :: es) σ H fun vs H1 => Wcall X (.builtin "sum") vs H1 Q) (he : starEach (e :: es) X.env = (false, eval e X.env) :: starEach es X.env := by kernel_rfl) (hpl : (backTo pos (starEach es X.env)).any (·.1) = false := by kernel_rfl) : We X (.Call (.Name "sum" p) (e :: es) [] pos) σ H Q := w_bltn cx hg (by rfl) h (by decide +kernel) (by decide +kernel) he hpl
theorem w_intT (cx : CxI P w K mg base k VL AL GL E X) (hg : In ("int" : Str) GL) (h : Wa X (e :: es) σ H fun vs H1 => Wcall X (.type "int") vs H1 Q) (he : starEach (e :: es) X.env = (false, eval e X.env) :: starEach es X.env := by kernel_rfl) (hpl : (backTo pos (starEach es X.env)).any (·.1) = false := by kernel_rfl) : We X (.Call (.Name "int" p) (e :: es) [] pos) σ H Q := w_bltT cx hg (by rfl) h (by decide +kernel) (by decide +kernel) he hpl
theorem w_strT (cx : CxI P w K mg base k VL AL GL E X) (hg : In ("str" : Str) GL) (h : Wa X (e :: es) σ H fun vs H1 => Wcall X (.type "str") vs H1 Q) (he : starEach (e :: es) X.env = (false, eval e X.env) :: starEach es X.env := by kernel_rfl) (hpl : (backTo pos (starEach es X.env)).any (·.1) = false := by kernel_rfl) : We X (.Call (.Name "str" p) (e :: es) [] pos) σ H Q := w_bltT cx hg (by rfl) h (by decide +kernel) (by decide +kernel) he hpl
theorem w_tupleT (cx : CxI P w K mg base k VL AL GL E X) (hg : In ("tuple" : Str) GL) (h : Wa X (e :: es) σ H fun vs H1 => Wcall X (.type "tuple") vs H1 Q) (he : starEach (e :: es) X.env = (false, eval e X.env) :: starEach es X.env := by kernel_rfl) (hpl : (backTo pos (starEach es X.env)).any (·.1) = false := by kernel_rfl) : We X (.Call (.Name "tuple" p) (e :: es) [] pos) σ H Q := w_bltT cx hg (by rfl) h (by decide +kernel) (by decide +kernel) he hpl
theorem w_listT (cx : CxI P w K mg base k VL AL GL E X) (hg : In ("list" : Str) GL) (h : Wa X (e :: es) σ H fun vs H1 => Wcall X (.type "list") vs H1 Q) (he : starEach (e :: es) X.env = (false, eval e X.env) :: starEach es X.env := by kernel_rfl) (hpl : (backTo pos (starEach es X.env)).any (·.1) = false := by kernel_rfl) : We X (.Call (.Name "list" p) (e :: es) [] pos) σ H Q := w_bltT cx hg (by rfl) h (by decide +kernel) (by decide +kernel) he hpl
theorem w_dictT (cx : CxI P w K mg base k VL AL GL E X) (hg : In ("dict" : Str) GL) (h : Wa X (e :: es) σ H fun vs H1 => Wcall X (.type "dict") vs H1 Q) (he : starEach (e :: es) X.env = (false, eval e X.env) :: starEach es X.env := by kernel_rfl) (hpl : (backTo pos (starEach es X.env)).any (·.1) = false := by kernel_rfl) : We X (.Call (.Name "dict" p) (e :: es) [] pos) σ H Q := w_bltT cx hg (by rfl) h (by decide +kernel) (by decide +kernel) he hpl
theorem w_boolT (cx : CxI P w K mg base k VL AL GL E X) (hg : In ("bool" : Str) GL) (h : Wa X (e :: es) σ H fun vs H1 => Wcall X (.type "bool") vs H1 Q) (he : starEach (e :: es) X.env = (false, eval e X.env) :: starEach es X.env := by kernel_rfl) (hpl : (backTo pos (starEach es X.env)).any (·.1) = false := by kernel_rfl) : We X (.Call (.Name "bool" p) (e :: es) [] pos) σ H Q := w_bltT cx hg (by rfl) h (by decide +kernel) (by decide +kernel) he hpl
theorem c_max {i j : Int} (cx : CxI P w K mg base k VL AL GL E X) (h : Q (.int (if j > i then j else i)) H) : Wcall X (.builtin "max") [.int i, .int j] H Q := ofCall (call_max2 cx.calm) ⟨i, j, rfl, h⟩
theorem c_min {i j : Int} (cx : CxI P w K mg base k VL AL GL E X) (h : Q (.int (if j < i then j else i)) H) : Wcall X (.builtin "min") [.int i, .int j] H Q := ofCall (call_min2 cx.calm) ⟨i, j, rfl, h⟩
theorem c_abs {i : Int} (h : Q (.int (if i < 0 then -i else i)) H) : Wcall X (.builtin "abs") [.int i] H Q := ofCall call_abs ⟨i, rfl, h⟩
theorem c_intI {i : Int} (h : Q (.int i) H) : Wcall X (.type "int") [.int i] H Q := ofCall call_int1 (.inl ⟨i, rfl, h⟩)
theorem c_intB {b : Bool} (h : Q (.int (if b then 1 else 0)) H) : Wcall X (.type "int") [.bl b] H Q := ofCall call_int1 (.inr ⟨b, rfl, h⟩)
theorem c_strI {i : Int} (hl : i.natAbs.log2 < 1920) (h : Q (.str (toString i)) H) : Wcall X (.type "str") [.int i] H Q := ofCall call_str_int ⟨i, rfl, hl, h⟩
theorem c_strS {i : Str} (h : Q (.str i) H) : Wcall X (.type "str") [.str i] H Q := ofCall SkE.call_str_str ⟨i, rfl, h⟩
theorem c_reprI {i : Int} (hl : i.natAbs.log2 < 1920) (h : Q (.str (toString i)) H) : Wcall X (.builtin "repr") [.int i] H Q := ofCall SkE.call_repr_int ⟨i, rfl, hl, h⟩
theorem c_lenS {z : Str} (hl : z.length ≤ sizeLine) (h : Q (.int z.length) H) : Wcall X (.builtin "len") [.str z] H Q := ofCall call_len_str ⟨z, rfl, hl, h⟩

/-! ### what stands in the heap, by Kn -/
variable {R : Hp → Prop} {M M' : List (Addr × (HO → Prop))} {L : List (Addr × Obj)} {a : Addr} {xs : List V} {v : V} {i : Int}
theorem c_lenT (kn : Kn R M L H) (en : Ent R (Ex a (.tup xs))) (h : Q (.int xs.length) H) : Wcall X (.builtin "len") [.ref a] H Q := ofCall call_len_seq ⟨a, xs, rfl, .inr (.inl (.inl (kn.get en))), h⟩
theorem c_lenL (kn : Kn R M L H) (en : Has a (Is (.lst xs)) M) (h : Q (.int xs.length) H) : Wcall X (.builtin "len") [.ref a] H Q := ofCall call_len_seq ⟨a, xs, rfl, .inl (.inl (.inl (kn.is en))), h⟩
theorem c_lenX (kn : Kn R M L H) (en : Ent R (Ex a (.lst xs))) (h : Q (.int xs.length) H) : Wcall X (.builtin "len") [.ref a] H Q := ofCall call_len_seq ⟨a, xs, rfl, .inl (.inl (.inl (kn.get en))), h⟩
theorem c_lenQ (cx : CxI P w K mg base k VL AL GL E X) (kn : Kn R M L H) (en : Ent R fun J => SqL K J a xs) (h : Q (.int xs.length) H) : Wcall X (.builtin "len") [.ref a] H Q := by
  have e3 := cx.eK
  subst e3
  exact ofCall call_len_seq ⟨a, xs, rfl, .inl (kn.get en), h⟩
theorem x_tup (kn : Kn R M L H) (en : Ent R (Ex a (.tup xs))) (hi : atI xs i = some v) (h : Q v H) : Wix X (.ref a) (.int i) H Q := ofIx ix_seq (.inr (.inl ⟨a, xs, i, v, rfl, rfl, .inl (.inl (kn.get en)), hi, h⟩))
theorem x_lst (kn : Kn R M L H) (en : Has a (Is (.lst xs)) M) (hi : atI xs i = some v) (h : Q v H) : Wix X (.ref a) (.int i) H Q := ofIx ix_seq (.inl ⟨a, xs, i, v, rfl, rfl, .inl (.inl (kn.is en)), hi, h⟩)
theorem x_lstX (kn : Kn R M L H) (en : Ent R (Ex a (.lst xs))) (hi : atI xs i = some v) (h : Q v H) : Wix X (.ref a) (.int i) H Q := ofIx ix_seq (.inl ⟨a, xs, i, v, rfl, rfl, .inl (.inl (kn.get en)), hi, h⟩)
theorem x_lstQ (cx : CxI P w K mg base k VL AL GL E X) (kn : Kn R M L H) (en : Ent R fun J => SqL K J a xs) (hi : atI xs i = some v) (h : Q v H) : Wix X (.ref a) (.int i) H Q := by
  have e3 := cx.eK
  subst e3
  exact ofIx ix_seq (.inl ⟨a, xs, i, v, rfl, rfl, kn.get en, hi, h⟩)
theorem x_str {z : Str} {c : Nat} (hl : z.length ≤ sizeLine) (hi : atI z.cps.toList i = some c) (h : Q (.str ⟨#[c]⟩) H) : Wix X (.str z) (.int i) H Q := ofIx ix_seq (.inr (.inr ⟨z, i, c, rfl, rfl, hl, hi, h⟩))
theorem p_lst {n : Nat} (kn : Kn R M L H) (hp : Put a (Is (.lst xs)) (Is (.lst (xs.set n v))) M M') (hi : ixN xs.length i = some n) {Q : Hp → Prop} (h : ∀ H', Kn R M' L H' → Q H') : Wset X (.ref a) (.int i) v H Q :=
  ofSet set_list ⟨a, xs, i, n, rfl, rfl, kn.is hp.has, hi, h _ (kn.write hp rfl)⟩
theorem p_l0 {x : V} {l : List V} (kn : Kn R M L H) (hp : Put a (Is (.lst (x :: l))) (Is (.lst (v :: l))) M M') {Q : Hp → Prop} (h : ∀ H', Kn R M' L H' → Q H') : Wset X (.ref a) (.int 0) v H Q :=
  ofSet set_list ⟨a, _, 0, 0, rfl, rfl, kn.is hp.has, ix0 (by simp), h _ (kn.write hp rfl)⟩
theorem p_l1 {x y : V} {l : List V} (kn : Kn R M L H) (hp : Put a (Is (.lst (x :: y :: l))) (Is (.lst (x :: v :: l))) M M') {Q : Hp → Prop} (h : ∀ H', Kn R M' L H' → Q H') : Wset X (.ref a) (.int 1) v H Q :=
  ofSet set_list ⟨a, _, 1, 1, rfl, rfl, kn.is hp.has, ix1 (by simp), h _ (kn.write hp rfl)⟩
theorem p_l2 {x y z : V} {l : List V} (kn : Kn R M L H) (hp : Put a (Is (.lst (x :: y :: z :: l))) (Is (.lst (x :: y :: v :: l))) M M') {Q : Hp → Prop} (h : ∀ H', Kn R M' L H' → Q H') : Wset X (.ref a) (.int 2) v H Q :=
  ofSet set_list ⟨a, _, 2, 2, rfl, rfl, kn.is hp.has, ix2 (by simp), h _ (kn.write hp rfl)⟩
/-- new tuples, lists -/
theorem w_tupK {x1} (h : Wa X es σ H fun xs H1 => ∃ R M L, Kn R M L H1 ∧ xs.length ≤ 10000 ∧ ∀ p H2, Kn (Cj (Ex p (.tup xs)) R) M L H2 → Q (.ref p) H2) : We X (.Tuple es x1 pos) σ H Q := by
  refine w_tup fun pos pins s I => thn (h pos pins s I) fun us s1 ⟨xs, H1, I1, r, R, M, L, kn, hl, q⟩ => ⟨xs, H1, I1, r, Nat.le_trans hl (by decide), fun p hp => ?_⟩
  exact q p _ (kn.newX hp (fun n => by rcases n with ⟨_, e⟩ | ⟨_, e⟩ <;> cases e) fun _ _ e => by cases e)
theorem w_lstK (h : Wa X es σ H fun xs H1 => ∃ R M L, Kn R M L H1 ∧ xs.length ≤ 10000 ∧ ∀ p H2, Kn R ((p, Is (.lst xs)) :: M) L H2 → Q (.ref p) H2) : We X (.List es pos) σ H Q := by
  refine w_lst fun pos pins s I => thn (h pos pins s I) fun us s1 ⟨xs, H1, I1, r, R, M, L, kn, hl, q⟩ => ⟨xs, H1, I1, r, Nat.le_trans hl (by decide), fun p hp => ?_⟩
  exact q p _ (kn.new hp rfl)
end

/-! ### tests that are known -/
section
variable {A B : Prop} {p : Prop} [Decidable p]
theorem i_t (h : p) (a : A) : if decide p = true then A else B := by rw [decide_eq_true h]; exact a
theorem i_f (h : ¬ p) (b : B) : if decide p = true then A else B := by rw [decide_eq_false h]; exact b
theorem i_2 (a : p → A) (b : ¬ p → B) : if decide p = true then A else B := by
  by_cases h : p
  · exact i_t h (a h)
  · exact i_f h (b h)
theorem i_not {c : Bool} (h : if c = true then B else A) : if (!c) = true then A else B := by cases c <;> exact h
theorem i_b {c : Bool} (a : c = true → A) (b : c = false → B) : if c = true then A else B := by
  cases c
  · exact b rfl
  · exact a rfl
end
theorem k_set {x : Str} {v : V} {N : List (Option Str)} {σ σ' : St} {A : St → Prop} (h : SetAt x v N σ σ') (a : A σ') : ∃ σ', SetAt x v N σ σ' ∧ A σ' := ⟨_, h, a⟩
theorem k_bl {c : Bool} {A : Bool → Prop} (h : A c) : ∃ c', V.bl c = .bl c' ∧ A c' := ⟨c, rfl, h⟩
end U

/-! U3: own __eq__, __repr__; f-strings; data: ==, repr. -/
namespace U
open PySem PySem.Spec L2
open PyProof.Rows hiding St
open PySem.W (Looks InstAt findIn isFn mroIn)

/-- a value's type -/
def TyIs (x : V) (H : Hp) (tb : Value) : Prop := match x with
  | .str _ => tb = .type "str"
  | .int _ => tb = .type "int"
  | .ref a => (∃ C dx fs, H a = some (.ins C dx fs) ∧ tb = .ref C) ∨ ∃ xs, H a = some (.tup xs) ∧ tb = .type "tuple"
  | _ => False
theorem ty_looks {X : Cx} {pins : List (Addr × Obj)} {σ : St} {H : Hp} {s : Shared} {x : V} {v tb : Value} {M : Model} (I : Inv X pins σ H s) (r : RelV x v) (t : TyIs x H tb) : Looks M s.heap (typeOf v) tb := by
  cases x with
  | str y =>
    obtain ⟨tk, rfl⟩ := r
    cases t
    exact .of_pure (by kernel_rfl)
  | int y =>
    obtain ⟨tk, rfl⟩ := r
    cases t
    exact .of_pure (by kernel_rfl)
  | ref a =>
    cases r
    rcases t with ⟨C, dx, fs, e, rfl⟩ | ⟨xs, e, rfl⟩
    · obtain ⟨mA, J, _⟩ := ins_get I.hok e
      obtain ⟨od, J, _⟩ := J.look
      exact J.type
    · obtain ⟨_, its, rv, o, ho, hc, _⟩ := I.hok a _ e
      exact fun A Q E s' k q => wpAny_typeOf_ref (k a o ho) (by rw [hc]; exact q)
  | _ => exact (show False from t).elim

/-- what a class with its own __eq__ and __repr__ (methods at fe, fr) and object's __ne__, __str__, __format__ has -/
structure EqC (K : PySem.W.Frag) (C fe : Addr) : Prop where
  eq : findIn K (.ref C) "__eq__" = some (some (.ref fe))
  fn : isFn K (.ref fe) = true
  ne : findIn K (.ref C) "__ne__" = some (some (.builtin "object.__ne__"))
  mro : mroIn K C (.type "object") = some true
structure RpC (K : PySem.W.Frag) (C fr : Addr) : Prop where
  rp : findIn K (.ref C) "__repr__" = some (some (.ref fr))
  fn : isFn K (.ref fr) = true
  st : findIn K (.ref C) "__str__" = some (some (.builtin "object.__str__"))
  fm : findIn K (.ref C) "__format__" = some (some (.builtin "object.__format__"))
  mro : mroIn K C (.type "object") = some true
/-- a method of this name at this address -/
def MtA (P : Program) (w : World) (K : PySem.W.Frag) (mg : Str → Option Value) (base : Heap) (f : Addr) (j : Nat) (ps : List Str) (sp : Sp) : Prop := ∃ fd, Fk P w K mg base j f fd ps sp ∧ Binds K fd ps []

section
variable {prog : Program} {w : World} {M : Model} {A : Around} {E : Value → Shared → Prop} {s : Shared} {K : PySem.W.Frag} {x C f : Addr} {ox : Obj} {od : Option Obj} {name : Str} {b tb : Value}
theorem ifBound_B {id : String} {args : List Value} {Q : Option Value → Shared → Prop} (X : K.In s.heap) (I : InstAt s.heap x ox C od) (hs : findIn K (.ref C) name = some (some (.builtin id))) (hb : ∀ self, bindSpecial (.builtin id) self = pure (.builtin id, [self]))
    (h : wpAny M A (call (.builtin id) (.ref x :: args)) (fun v => Q (some v)) E s) : wpAny M A (callSpecialIfBound? (.ref x) name args) Q E s := by
  simp only [callSpecialIfBound?, bindSpecialIfBound?]
  refine wpAny_holding (wpAny_bind (wpAny_bind (wpAny_bind (I.type.here ((PySem.W.looks_findIn X hs).here ?_)))))
  refine wpAny_bind (wpAny_askSetting (wpAny_ite ?_))
  have fin : wpAny M A (call (.builtin id) ([.ref x] ++ args) >>= fun v => pure (some v)) Q E s := wpAny_bind (wpAny_mono h (fun v s' h' => wpAny_pure h') fun _ _ h' => h')
  split
  · exact wpAny_bind ((Looks.of_pure (hb _)).here (wpAny_pure (by exact fin)))
  · exact wpAny_tryCatch (wpAny_bind ((Looks.of_pure (hb _)).here (wpAny_pure (by exact fin))))
theorem obj_ne {Q : Value → Shared → Prop} (hu : A.in1.units < cLine) (X : K.In s.heap) (I : InstAt s.heap x ox C od) (q : EqC K C f) (h : wpAny (model prog w) A.in1 (call (.ref f) [.ref x, b]) (fun v s' => ∃ c, v = .bool c ∧ Q (.bool (!c)) s') E s) :
    wpAny (model prog w) A (call (.builtin "object.__ne__") [.ref x, b]) Q E s := by
  refine wpAny_call (codeAny_call_builtin PySem.F.slot_object_ne.plain F.cmpEntry_ne (PySem.W.check_slot (i := "object.__ne__") (owner := "object") (n := "__ne__") (by decide +kernel) (by decide +kernel) (I.type.andThen (PySem.W.looks_mroIn X q.mro)) (F.cmpArgs_ne _ _) ?_))
  unfold Builtin.«object.__ne__»
  refine wpAny_bind (m := slotArgs "__ne__" 1 _) (wpAny_pure ?_)
  refine wpAny_bind (m := cRoomFor _ _) (wpAny_cRoomFor hu ?_)
  refine wpAny_bind (m := callSpecialIfBound? (.ref x) (Str.ofString "__eq__") _) (PySem.W.ifBound_K X I q.eq q.fn (wpAny_mono h (fun r s' hq => ?_) fun _ _ y => y))
  obtain ⟨c, rfl, hq⟩ := hq
  exact wpAny_bind (wpAny_truthy_bool (wpAny_pure hq))
theorem cmp_ne {Q : Value → Shared → Prop} (hu : A.units < cLine) (hu1 : A.in1.units < cLine) (X : K.In s.heap) (I : InstAt s.heap x ox C od) (hb : Looks (model prog w) s.heap (typeOf b) tb) (hn : PySem.W.notFirst K C tb = true) (q : EqC K C f)
    (h : wpAny (model prog w) A.in1 (call (.ref f) [.ref x, b]) (fun v s' => ∃ c, v = .bool c ∧ Q (.bool (!c)) s') E s) : wpAny (model prog w) A (richCompare .NotEq (.ref x) b) Q E s := by
  have one : wpAny (model prog w) A (tryCompare (.ref x) (cmpInfo .NotEq).2.1 b) (fun r s' => ∃ v, r = some v ∧ Q v s') E s := by
    unfold tryCompare
    refine wpAny_bind (ifBound_B X I q.ne PySem.F.slot_object_ne.bind (obj_ne hu1 X I q (wpAny_mono h (fun v s' hv => ?_) fun _ _ e => e)))
    obtain ⟨c, rfl, hq⟩ := hv
    exact ⟨c, rfl, wpAny_pure ⟨_, rfl, hq⟩⟩
  unfold richCompare
  simp only [oneThing_ref]
  refine wpAny_holding (wpAny_bind (wpAny_cRoomFor hu ?_))
  refine wpAny_bind (I.type.here (wpAny_bind (hb.here ?_)))
  split
  · rename_i q
    have e : PySem.W.subIn K tb (.ref C) = some false := by
      rcases Bool.or_eq_true_iff.mp hn with e | e
      · rw [beq_iff_eq.mp e] at q; simp at q
      · exact beq_iff_eq.mp e
    refine wpAny_bind ((PySem.W.looks_subIn X e).here ?_)
    simp only [Bool.false_eq_true, if_false]
    refine wpAny_bind (wpAny_mono one (fun r s' z => ?_) fun _ _ e => e)
    obtain ⟨v, rfl, hq⟩ := z
    exact wpAny_pure hq
  · refine wpAny_bind (wpAny_pure ?_)
    simp only [Bool.false_eq_true, if_false]
    refine wpAny_bind (wpAny_mono one (fun r s' z => ?_) fun _ _ e => e)
    obtain ⟨v, rfl, hq⟩ := z
    exact wpAny_pure hq
end
/-! ### by values -/
section
variable {P : Program} {w : World} {K : PySem.W.Frag} {mg : Str → Option Value} {base : Heap} {k : Nat} {VL AL : List (Option Str)} {GL : List Str} {E : XK} {X : Cx} {σ : St} {H : Hp} {Q : VK} {pos : Pos} {j : Nat} {ps : List Str} {sp : Sp} {a C dx fe fr : Addr} {fs : List (Str × V)}
theorem noE {o : List Env} {s : Shared} {e : Value} {s' : Shared} {E' : Value → Shared → Prop} (h : L2.CX P w o H s E0 e s') : E' e s' := by
  obtain ⟨_, _, _, _, _, _, _, _, _, _, _, _, z⟩ := h
  exact z.elim
theorem o_eqOwn (cx : CxI P w K mg base k VL AL GL E X) (q : EqC K C fe) (m : MtA P w K mg base fe j ps sp) (hj : Nat.ble j k = true) (ha : H a = some (.ins C dx fs)) {y : V} {tb : Value} (t : TyIs y H tb) (hn : PySem.W.notFirst K C tb = true)
    (h : sp [.ref a, y] H (fun v H' => ∃ c, v = .bl c ∧ Q (.bl c) H') E0) : Wop X (compareOp .Eq) (.ref a) y H Q := by
  intro pins s σ v u I r1 r2
  cases (show v = Value.ref a from r1)
  have rg := cx.rg' (Nat.le_of_ble_eq_true hj)
  obtain ⟨fd, F, b⟩ := m
  obtain ⟨e1, e2, e3, e4, e5, _⟩ := cx
  subst e1; subst e2; subst e3; subst e4; subst e5
  obtain ⟨mA, J, _⟩ := ins_get I.hok ha
  obtain ⟨od, J, _⟩ := J.look
  obtain ⟨m, hF⟩ := I.fr
  unfold compareOp
  refine PySem.W.cmp_K (op := .Eq) (tb := tb) rg.rm.units0 hF I.ok.mod.kin J (ty_looks I r2 t) hn q.eq q.fn ?_
  refine wpAny_mono (F.call (frm_ I) rg I b (us := [.ref a, u]) (vs := [.ref a, y]) (.cons r1 (.cons r2 .nil)) h fun e s' c => noE c) (fun z s' q => ?_) fun _ _ x => x
  obtain ⟨v', H', I', rz, c, rfl, q⟩ := q
  cases rz
  exact ⟨.bl c, H', I', rfl, q⟩
theorem o_neOwn (cx : CxI P w K mg base k VL AL GL E X) (q : EqC K C fe) (m : MtA P w K mg base fe j ps sp) (hj : Nat.ble (j + 1) k = true) (ha : H a = some (.ins C dx fs)) {y : V} {tb : Value} (t : TyIs y H tb) (hn : PySem.W.notFirst K C tb = true)
    (h : sp [.ref a, y] H (fun v H' => ∃ c, v = .bl c ∧ Q (.bl (!c)) H') E0) : Wop X (compareOp .NotEq) (.ref a) y H Q := by
  intro pins s σ v u I r1 r2
  cases (show v = Value.ref a from r1)
  have rg := cx.rg' (Nat.le_of_ble_eq_true hj)
  obtain ⟨fd, F, b⟩ := m
  obtain ⟨e1, e2, e3, e4, e5, _⟩ := cx
  subst e1; subst e2; subst e3; subst e4; subst e5
  obtain ⟨mA, J, _⟩ := ins_get I.hok ha
  obtain ⟨od, J, _⟩ := J.look
  unfold compareOp
  refine cmp_ne rg.rm.units0 rg.in1.rm.units0 I.kIn J (ty_looks I r2 t) hn q ?_
  refine wpAny_mono (F.call (A := X.A.in1) I.env0.in1.frames rg.in1 I b (us := [.ref a, u]) (vs := [.ref a, y]) (.cons r1 (.cons r2 .nil)) h fun e s' c => noE c) (fun z s' q => ?_) fun _ _ x => x
  obtain ⟨v', H', I', rz, c, rfl, q⟩ := q
  cases rz
  exact ⟨c, rfl, .bl (!c), H', I', rfl, q⟩
theorem c_reprOwn (cx : CxI P w K mg base k VL AL GL E X) (q : RpC K C fr) (m : MtA P w K mg base fr j ps sp) (hj : Nat.ble (j + 1) k = true) (ha : H a = some (.ins C dx fs)) (h : sp [.ref a] H (fun v H' => ∃ z, v = .str z ∧ Q (.str z) H') E0) : Wcall X (.builtin "repr") [.ref a] H Q := by
  intro pins s σ us I rr
  obtain ⟨u, rfl, r1⟩ := rr.one
  cases (show u = Value.ref a from r1)
  have rg := cx.rg' (Nat.le_of_ble_eq_true hj)
  obtain ⟨fd, F, b⟩ := m
  obtain ⟨e1, e2, e3, e4, e5, _⟩ := cx
  subst e1; subst e2; subst e3; subst e4; subst e5
  obtain ⟨mA, J, _⟩ := ins_get I.hok ha
  obtain ⟨od, J, _⟩ := J.look
  obtain ⟨m, hF⟩ := I.fr
  refine PySem.W.repr_K rg.in1.rm.units0 hF I.ok.mod.kin J q.rp q.fn ?_
  refine wpAny_mono (F.call (A := X.A.in1) I.env0.in1.frames rg.in1 I b (us := [.ref a]) (vs := [.ref a]) (.cons r1 .nil) h fun e s' c => noE c) (fun z s' q => ?_) fun _ _ x => x
  obtain ⟨v', H', I', rz, c, rfl, q⟩ := q
  obtain ⟨t, rfl⟩ := rz
  exact ⟨.str c, H', I', ⟨t, rfl⟩, q⟩
theorem c_strOwn (cx : CxI P w K mg base k VL AL GL E X) (q : RpC K C fr) (m : MtA P w K mg base fr j ps sp) (hj : Nat.ble (j + 3) k = true) (ha : H a = some (.ins C dx fs)) (h : sp [.ref a] H (fun v H' => ∃ z, v = .str z ∧ Q (.str z) H') E0) : Wcall X (.type "str") [.ref a] H Q := by
  intro pins s σ us I rr
  obtain ⟨u, rfl, r1⟩ := rr.one
  cases (show u = Value.ref a from r1)
  have rg := cx.rg' (Nat.le_of_ble_eq_true hj)
  obtain ⟨fd, F, b⟩ := m
  obtain ⟨e1, e2, e3, e4, e5, _⟩ := cx
  subst e1; subst e2; subst e3; subst e4; subst e5
  obtain ⟨mA, J, _⟩ := ins_get I.hok ha
  obtain ⟨od, J, _⟩ := J.look
  refine PySem.W.kfo_call rg.in1.in1.rm.units0 rg.in1.in1.in1.rm.units0 I.kIn J q.st q.mro q.rp q.fn ?_
  refine wpAny_mono (F.call (A := X.A.in1.in1.in1) I.env0.in1.in1.in1.frames rg.in1.in1.in1 I b (us := [.ref a]) (vs := [.ref a]) (.cons r1 .nil) h fun e s' c => noE c) (fun z s' q => ?_) fun _ _ x => x
  obtain ⟨v', H', I', rz, c, rfl, q⟩ := q
  obtain ⟨t, rfl⟩ := rz
  exact ⟨.str c, H', I', ⟨t, rfl⟩, q⟩
/-! ### f-strings -/
def Wfm (X : Cx) (x : V) (H : Hp) (Q : VK) : Prop := ∀ (pins : List (Addr × Obj)) (s : Shared) (σ : St) (v : Value), Inv X pins σ H s → RelV x v → wpAny (model X.prog X.w) X.A (formatField v Str.empty) (EP X pins σ Q) X.xe s
theorem w_fmt {e : Expr} (h : We X e σ H fun x H1 => Wfm X x H1 Q) : We X (.FormattedValue e (-1) none pos) σ H Q := fun pins s I =>
  wpAny_FormattedValue_plain (thn (h pins s I) fun v s1 ⟨x, H1, I1, r, q⟩ => q pins s1 σ v I1 r)
theorem f_str {y : Str} (hl : y.length ≤ sizeLine) (h : Q (.str y) H) : Wfm X (.str y) H Q := by
  intro pins s σ v I r
  obtain ⟨t, rfl⟩ := r
  exact wpAny_formatField_str ⟨.str y, H, I, ⟨t, rfl⟩, h⟩ ⟨.str y, H, I.tok _, ⟨_, rfl⟩, h⟩ hl
theorem f_int {i : Int} (hl : i.natAbs.log2 < 1920) (h : Q (.str (toString i)) H) : Wfm X (.int i) H Q := by
  intro pins s σ v I r
  obtain ⟨t, rfl⟩ := r
  exact wpAny_formatField_int hl ⟨.str (toString i), H, I.tok _, ⟨_, rfl⟩, h⟩
theorem f_own (cx : CxI P w K mg base k VL AL GL E X) (q : RpC K C fr) (m : MtA P w K mg base fr j ps sp) (hj : Nat.ble (j + 2) k = true) (ha : H a = some (.ins C dx fs)) (h : sp [.ref a] H (fun v H' => ∃ z, v = .str z ∧ Q (.str z) H') E0) : Wfm X (.ref a) H Q := by
  intro pins s σ u I r1
  cases (show u = Value.ref a from r1)
  have rg := cx.rg' (Nat.le_of_ble_eq_true hj)
  obtain ⟨fd, F, b⟩ := m
  obtain ⟨e1, e2, e3, e4, e5, _⟩ := cx
  subst e1; subst e2; subst e3; subst e4; subst e5
  obtain ⟨mA, J, _⟩ := ins_get I.hok ha
  obtain ⟨od, J, _⟩ := J.look
  have I1 := I.tok (s.toks + 1)
  refine PySem.W.kfo_fieldR rg.in1.rm.units0 rg.in1.in1.rm.units0 I.kIn J q.fm q.mro q.st q.rp q.fn ?_
  refine wpAny_mono (F.call (A := X.A.in1.in1) I1.env0.in1.in1.frames rg.in1.in1 I1 b (us := [.ref a]) (vs := [.ref a]) (.cons r1 .nil) h fun e s' c => noE c) (fun z s' q => ?_) fun _ _ x => x
  obtain ⟨v', H', I', rz, c, rfl, q⟩ := q
  obtain ⟨t, rfl⟩ := rz
  exact ⟨.str c, H', I', ⟨t, rfl⟩, q⟩
/-- the parts es of a text, behind acc -/
def Wj (X : Cx) (es : List Expr) (acc : Str) (σ : St) (H : Hp) (Q : Str → Hp → Prop) : Prop := tJs (es.map (We X)) acc σ H Q
theorem pjU : ∀ {es : List Expr}, PJ X es (es.map (We X))
  | [] => .nil
  | _ :: _ => .cons peU pjU
theorem w_joined {v1 v2 : Expr} {rest : List Expr} (h : Wj X (v1 :: v2 :: rest) Str.empty σ H fun out H1 => Q (.str out) H1) : We X (.JoinedStr (v1 :: v2 :: rest) pos) σ H Q := ofPE (pe_joined pjU) h
theorem w_joined1 {e : Expr} (h : We X e σ H Q) : We X (.JoinedStr [e] pos) σ H Q := ofPE (pe_joined1 peU) h
theorem wj_nil {acc : Str} {Q : Str → Hp → Prop} (h : Q acc H) : Wj X [] acc σ H Q := h
theorem wj_cons {e : Expr} {es : List Expr} {acc : Str} {Q : Str → Hp → Prop} (h : We X e σ H fun x H1 => ∃ y : Str, x = .str y ∧ (acc ++ y).length ≤ sizeLine ∧ Wj X es (acc ++ y) σ H1 Q) : Wj X (e :: es) acc σ H Q := h
theorem k_str {y : Str} {A : Str → Prop} {L : Prop} {f : Str → Str} (hl : (f y).length ≤ sizeLine) (h : A y) : ∃ z : Str, V.str y = .str z ∧ (f z).length ≤ sizeLine ∧ A z := ⟨y, rfl, hl, h⟩
theorem k_sj {acc y : Str} {A : Str → Prop} {n : Nat} (hl : (acc ++ y).length ≤ n) (hn : Nat.ble n 16777216 = true) (h : A y) : ∃ z : Str, V.str y = .str z ∧ (acc ++ z).length ≤ sizeLine ∧ A z := ⟨y, rfl, Nat.le_trans hl (Nat.le_of_ble_eq_true hn), h⟩
theorem k_s1 {y : Str} {A : Str → Prop} (h : A y) : ∃ z : Str, V.str y = .str z ∧ A z := ⟨y, rfl, h⟩
/-- lengths -/
theorem l_app {x y : Str} {m n : Nat} (a : x.length ≤ m) (b : y.length ≤ n) : (x ++ y).length ≤ m + n := by rw [strLen_append]; omega
theorem l_emp : Str.empty.length ≤ 0 := Nat.le_refl _
theorem l_int {i : Int} (h : i.natAbs.log2 < 1920) : (Str.ofString (toString i)).length ≤ 1921 := PyProof.Rows.int_text_len_1921 h
theorem log_ok {i : Int} (h : -1606938044258990275541962092341162602522202993782792835301376 < i ∧ i < 1606938044258990275541962092341162602522202993782792835301376) : i.natAbs.log2 < 1920 := by
  have z : i.natAbs < 2 ^ 200 := by omega
  exact Nat.lt_trans (PySem.Flt.log2_lt_of (by decide) z) (by decide)
/-! ### data -/
variable {R : Hp → Prop} {M : List (Addr × (HO → Prop))} {L : List (Addr × Obj)} {xs : List V} {ds : List PyData}
theorem d_tup (kn : Kn R M L H) (en : Ent R (Ex a (.tup xs))) (h : DpAll K H xs ds) : Dp K H (.ref a) (.tuple ds) := .tup (.inl (.inl (kn.get en))) h
theorem d_lst (kn : Kn R M L H) (en : Has a (Is (.lst xs)) M) (h : DpAll K H xs ds) : Dp K H (.ref a) (.list ds) := .lst (.inl (.inl (kn.is en))) h
theorem d_lstX (kn : Kn R M L H) (en : Ent R (Ex a (.lst xs))) (h : DpAll K H xs ds) : Dp K H (.ref a) (.list ds) := .lst (.inl (.inl (kn.get en))) h
end
mutual
/-- ints, texts, None, tuples and lists of them -/
def pl : PyData → Bool
  | .none => true
  | .bool _ => false
  | .int _ => true
  | .str _ => true
  | .list xs => plAll xs
  | .tuple xs => plAll xs
  | .dict _ => false
def plAll : List PyData → Bool
  | [] => true
  | x :: xs => pl x && plAll xs
end
mutual
theorem eqv_iff : ∀ (d e : PyData), pl d = true → pl e = true → (PyData.eqv d e = true ↔ d = e)
  | .none, e, _, he => by cases e <;> simp_all [PyData.eqv, pl]
  | .bool _, e, hd, he => by simp [pl] at hd
  | .int i, e, _, he => by cases e <;> simp_all [PyData.eqv, pl]
  | .str i, e, _, he => by cases e <;> simp_all [PyData.eqv, pl]
  | .list xs, e, hd, he => by
    cases e with
    | list ys =>
      have z := eqv_iffAll xs ys (by simpa [pl] using hd) (by simpa [pl] using he)
      simp [PyData.eqv, z]
    | _ => simp_all [PyData.eqv, pl]
  | .tuple xs, e, hd, he => by
    cases e with
    | tuple ys =>
      have z := eqv_iffAll xs ys (by simpa [pl] using hd) (by simpa [pl] using he)
      simp [PyData.eqv, z]
    | _ => simp_all [PyData.eqv, pl]
  | .dict _, e, hd, he => by simp [pl] at hd
theorem eqv_iffAll : ∀ (xs ys : List PyData), plAll xs = true → plAll ys = true → (PyData.eqvAll xs ys = true ↔ xs = ys)
  | [], [], _, _ => by simp [PyData.eqvAll]
  | [], _ :: _, _, _ => by simp [PyData.eqvAll]
  | _ :: _, [], _, _ => by simp [PyData.eqvAll]
  | x :: xs, y :: ys, hd, he => by
    simp only [plAll, Bool.and_eq_true] at hd he
    have z := eqv_iff x y hd.1 he.1
    have z2 := eqv_iffAll xs ys hd.2 he.2
    simp [PyData.eqvAll, z, z2]
end
section
variable {P : Program} {w : World} {K : PySem.W.Frag} {mg : Str → Option Value} {base : Heap} {k : Nat} {VL AL : List (Option Str)} {GL : List Str} {E : XK} {X : Cx} {σ : St} {H : Hp} {Q : VK} {x y : V} {d e : PyData} {a : Addr}
theorem o_eqD (cx : CxI P w K mg base k VL AL GL E X) (hd : Dp K H x d) (he : Dp K H y e) (sd : SeqAt.shaped d = true) (se : SeqAt.shaped e = true) (pd : pl d = true) (pe : pl e = true) (h : ∀ c : Bool, (c = true ↔ d = e) → Q (.bl c) H) : Wop X (compareOp .Eq) x y H Q := by
  have e3 := cx.eK
  subst e3
  exact ofOp (op_eqD cx.room.units) ⟨d, e, hd, he, sd, se, h _ (eqv_iff d e pd pe)⟩
theorem o_neD (cx : CxI P w K mg base k VL AL GL E X) (hd : Dp K H x d) (he : Dp K H y e) (sd : SeqAt.shaped d = true) (se : SeqAt.shaped e = true) (pd : pl d = true) (pe : pl e = true) (h : ∀ c : Bool, (c = true ↔ d = e) → Q (.bl (!c)) H) : Wop X (compareOp .NotEq) x y H Q := by
  have e3 := cx.eK
  subst e3
  exact ofOp (op_neD cx.room.units) ⟨d, e, hd, he, sd, se, h _ (eqv_iff d e pd pe)⟩
theorem c_reprD (cx : CxI P w K mg base k VL AL GL E X) (hd : Dp K H (.ref a) d) (sh : d.showable = true) (nd : d.hasDict = false) (hp : d.depth ≤ 100) (hz : d.shown.length ≤ sizeLine) (h : Q (.str d.shown) H) : Wcall X (.builtin "repr") [.ref a] H Q := by
  intro pins s σ us I rr
  obtain ⟨u, rfl, r1⟩ := rr.one
  have e3 := cx.eK
  subst e3
  obtain ⟨as, r⟩ := Dp.reads I d _ u hd r1
  cases (show u = Value.ref a from r1)
  refine repr_of_reads' r sh (PyData.noDict_hsm nd) cx.gd ?_ (fun _ _ e => e) (fun h' u tk hk => ?_) hz
  · have := cx.room.un
    omega
  · exact ⟨.str d.shown, H, I.kept hk, ⟨u, rfl⟩, h⟩
end
end U

/-! U4: loops, comprehensions. -/
namespace U
open PySem PySem.Spec L2
open PySem.W (findIn)
open PyProof.Rows hiding St

/-- an iterator that yields f 0, .., f (n - 1) while S stands -/
structure ItW (J : It) (n : Nat) (f : Nat → V) (S : Hp → Prop) : Prop where
  stop : ∀ H, S H → J.stop n H
  go : ∀ i H, i < n → S H → J.go i H
  yld : ∀ i H x H', i < n → S H → J.yld i H x H' → x = f i ∧ H' = H
theorem itw_list {K : PySem.W.Frag} {a : Addr} {xs : List V} : ItW (Itl K a) xs.length (fun i => xs.getD i .non) (fun H => SqL K H a xs) :=
  ⟨fun H h => ⟨xs, h, Nat.le_refl _⟩, fun i H hi h => ⟨xs, xs[i], h, by simp [hi]⟩, fun i H x H' hi h y => by
    obtain ⟨e, y⟩ := y
    have z := y xs h
    exact ⟨by rw [List.getD_eq_getElem?_getD, z]; rfl, e⟩⟩
theorem itw_tup {K : PySem.W.Frag} {a : Addr} {xs : List V} : ItW (Itt K a) xs.length (fun i => xs.getD i .non) (fun H => SqT K H a xs) :=
  ⟨fun H h => ⟨xs, h, Nat.le_refl _⟩, fun i H hi h => ⟨xs, xs[i], h, by simp [hi]⟩, fun i H x H' hi h y => by
    obtain ⟨e, y⟩ := y
    have z := y xs h
    exact ⟨by rw [List.getD_eq_getElem?_getD, z]; rfl, e⟩⟩
theorem itw_rng {lo : Int} {n : Nat} : ItW (Itr lo n) n (fun i => .int (lo + i)) (fun _ => True) :=
  ⟨fun _ _ => Nat.le_refl _, fun _ _ hi _ => hi, fun _ _ _ _ _ _ y => ⟨y.2, y.1⟩⟩
theorem itw_str {x : Str} : ItW (Its x) x.cps.size (fun i => .str ⟨#[x.cps.getD i 0]⟩) (fun _ => True) :=
  ⟨fun _ _ => Nat.le_refl _, fun _ _ hi _ => hi, fun i H v H' hi _ y => by
    obtain ⟨e, c, hc, rfl⟩ := y
    refine ⟨?_, e⟩
    have z : x.cps.getD i 0 = c := by rw [Array.getD_eq_getD_getElem?, hc]; rfl
    rw [z]⟩
theorem itw_keys {d : Addr} {o : Obj} {kvs : List (Key × V)} : ItW (Itk d o kvs) kvs.length (fun i => ((kvs.map fun p => kV p.1).getD i .non)) (fun H => H d = some (.frz o (.dK kvs))) :=
  ⟨fun H h => ⟨h, Nat.le_refl _⟩, fun i H hi h => ⟨h, hi⟩, fun i H x H' hi h y => by
    obtain ⟨e, k, v, hk, rfl⟩ := y
    refine ⟨?_, e⟩
    rw [List.getD_eq_getElem?_getD, List.getElem?_map, hk]
    rfl⟩

section
variable {P : Program} {w : World} {K : PySem.W.Frag} {mg : Str → Option Value} {base : Heap} {k : Nat} {VL AL : List (Option Str)} {GL : List Str} {E : XK} {X : Cx} {σ : St} {H : Hp} {Q : VK} {pos : Pos} {tg iter : Expr} {nx : St → Hp → Prop} {rt : VK} {bk ct : St → Hp → Prop} {rest body : List Stmt}
/-! ### what is walked -/
theorem wi_lst (cx : CxI P w K mg base k VL AL GL E X) {R : It → Hp → Prop} (h : We X iter σ H fun x H1 => ∃ a xs, x = .ref a ∧ SqL K H1 a xs ∧ R (Itl K a) H1) : Wi X tg iter σ H R := by
  have e3 := cx.eK
  subst e3
  exact ofPI (pi_list peU) fun pins s I => thn (h pins s I) fun v s1 ⟨x, H1, I1, r, a, xs, e, q, z⟩ => ⟨x, H1, I1, r, a, e, ⟨xs, q⟩, z⟩
theorem wi_tup (cx : CxI P w K mg base k VL AL GL E X) {R : It → Hp → Prop} (h : We X iter σ H fun x H1 => ∃ a xs, x = .ref a ∧ SqT K H1 a xs ∧ R (Itt K a) H1) : Wi X tg iter σ H R := by
  have e3 := cx.eK
  subst e3
  exact ofPI (pi_tup peU) fun pins s I => thn (h pins s I) fun v s1 ⟨x, H1, I1, r, a, xs, e, q, z⟩ => ⟨x, H1, I1, r, a, e, ⟨xs, q⟩, z⟩
theorem wi_str {R : It → Hp → Prop} (h : We X iter σ H fun x H1 => ∃ y, x = .str y ∧ R (Its y) H1) : Wi X tg iter σ H R := ofPI (pi_str peU) h
theorem wi_keys {R : It → Hp → Prop} (h : We X iter σ H fun x H1 => ∃ d o kvs, x = .ref d ∧ H1 d = some (.frz o (.dK kvs)) ∧ R (Itk d o kvs) H1) : Wi X tg iter σ H R :=
  ofPI (pi_keys peU) fun pins s I => thn (h pins s I) fun v s1 ⟨x, H1, I1, r, d, o, kvs, e, q, z⟩ => ⟨x, H1, I1, r, d, o, e, .inl ⟨kvs, q, z⟩⟩
theorem wi_rng1 (cx : CxI P w K mg base k VL AL GL E X) (hg : In ("range" : Str) GL) {a : Expr} {p : Pos} {R : It → Hp → Prop} (h : We X a σ H fun x H1 => ∃ j : Int, x = .int j ∧ -(4611686018427387904) ≤ j ∧ j < 4611686018427387904 ∧ R (Itr 0 j.toNat) H1)
    (hs : starEach [a] X.env = [(false, eval a X.env)] := by kernel_rfl) : Wi X tg (.Call (.Name "range" p) [a] [] pos) σ H R := by
  refine ofPI (pi_range1 (cx.gl hg).1 (cx.bltn (by decide +kernel)) (pa_cons peU pa_nil (by rw [hs]; rfl)) hs) ?_
  exact fun pins s I => thn (h pins s I) fun v s1 ⟨x, H1, I1, r, j, e, q1, q2, z⟩ => ⟨x, H1, I1, r, j, by rw [e], q1, q2, z⟩
theorem wi_rng2 (cx : CxI P w K mg base k VL AL GL E X) (hg : In ("range" : Str) GL) {a b : Expr} {p : Pos} {R : It → Hp → Prop} (h : We X a σ H fun x H1 => We X b σ H1 fun y H2 => ∃ i j : Int, x = .int i ∧ y = .int j ∧ (-(4611686018427387904) ≤ i ∧ i < 4611686018427387904 ∧ -(4611686018427387904) ≤ j ∧ j < 4611686018427387904) ∧ R (Itr i (j - i).toNat) H2)
    (hs : starEach [a, b] X.env = [(false, eval a X.env), (false, eval b X.env)] := by kernel_rfl) (hs2 : starEach [b] X.env = [(false, eval b X.env)] := by kernel_rfl) : Wi X tg (.Call (.Name "range" p) [a, b] [] pos) σ H R := by
  refine ofPI (pi_range2 (cx.gl hg).1 (cx.bltn (by decide +kernel)) (pa_cons peU (pa_cons peU pa_nil (by rw [hs2]; rfl)) (by rw [hs, hs2])) hs hs2) ?_
  refine fun pins s I => thn (h pins s I) fun v s1 ⟨x, H1, I1, r, q⟩ => ⟨x, H1, I1, r, fun pins s I => thn (q pins s I) fun v s1 ⟨y, H2, I2, r2, i, j, e1, e2, c, z⟩ => ⟨y, H2, I2, r2, i, j, by rw [e1, e2], c, z⟩⟩
/-! ### for -/
theorem s_forW (cx : CxI P w K mg base k VL AL GL E X)
    (h : Wi X tg iter σ H fun J H1 => ∃ n f S, ItW J n f S ∧ ∃ Pv : Nat → St → Hp → Prop, Pv 0 σ H1 ∧ (∀ i σ H, i ≤ n → Pv i σ H → S H) ∧
      (∀ i σ H, i < n → Pv i σ H → Wg X tg (f i) σ H fun σ2 H2 => Wss X body ⟨Pv (i + 1), rt, fun σ' H' => Wss X rest ⟨nx, rt, bk, ct⟩ σ' H', Pv (i + 1)⟩ σ2 H2) ∧ ∀ σ H, Pv n σ H → Wss X rest ⟨nx, rt, bk, ct⟩ σ H)
    (hs : ∀ x, foldedSetIterable iter X.env x = pure x := by exact (fun _ => by kernel_rfl)) : Wss X (.For tg iter body [] pos :: rest) ⟨nx, rt, bk, ct⟩ σ H := by
  refine s_for cx (fun pins s I => thn (h pins s I) fun v s1 q => thn q fun itv s2 q => ?_) hs
  obtain ⟨it, fp, tn, J, H', e, I', T, t0, fpk, n, f, S, W, Pv, p0, pS, step, fin⟩ := q
  refine ⟨it, fp, tn, J, H', e, I', T, t0, fpk, fun i m σ H => m = n - i ∧ i ≤ n ∧ Pv i σ H, ⟨n, by simp, Nat.zero_le _, p0⟩, ?_⟩
  rintro i m σ H ⟨rfl, hi, p⟩
  by_cases hlt : i < n
  · refine .inr ⟨W.go i H hlt (pS i σ H hi p), Pv (i + 1), fun σ' H' p' => ⟨n - (i + 1), by omega, rfl, hlt, p'⟩, fun x H' y => ?_⟩
    obtain ⟨rfl, rfl⟩ := W.yld i H x H' hlt (pS i σ H hi p) y
    exact step i σ _ hlt p
  · have e : i = n := by omega
    subst e
    exact .inl ⟨W.stop H (pS _ σ H hi p), fin σ H p⟩
/-! ### comprehensions -/
def relN (nb ns : List (Str × NameKind)) : List (Str × NameKind) := nb.map fun (n, k) => if (k == .free && ns.lookup n == some .cell) then (n, .cell) else (n, k)
def blkB (N : List Str) (ns : List (Str × NameKind)) (scope : Scope) (own : List (Str × Nat)) (VL AL : List (Option Str)) (GL : List Str) : Bool :=
  scope.kind == .function && scope.names.all (fun y => scope.names.lookup y.1 == some y.2) && own.all (fun p => N[p.2]? == some p.1) &&
  scope.names.all (fun y => !(y.2 == .free) || ns.lookup y.1 == some .cell || ns.lookup y.1 == some .free) &&
  scope.names.all (fun y => !(y.2 == .local || y.2 == .cell) || (own.map (·.1)).contains y.1 || !(N.contains y.1)) &&
  okAll N (relN scope.names ns) VL AL GL && AL.all (fun o => match o with | none => true | some x => (relN scope.names ns).lookup x == some .local)
theorem blk_ok {N : List Str} {ns : List (Str × NameKind)} {sc scope : Scope} {own : List (Str × Nat)} {VL AL : List (Option Str)} {GL : List Str} (h : blkB N ns scope own VL AL GL = true) (e : sc.names = ns) : BlkOk N sc scope own := by
  unfold blkB at h
  simp only [Bool.and_eq_true] at h
  obtain ⟨⟨⟨⟨⟨⟨h1, h2⟩, h3⟩, h4⟩, h5⟩, _⟩, _⟩ := h
  subst e
  refine ⟨eq_of_beq h1, fun y hy => ?_, fun p hp => ?_, fun y hy hf => ?_, fun y hy hf => ?_⟩
  · have z := List.all_eq_true.mp h2 y hy
    exact beq_iff_eq.mp z
  · have z := List.all_eq_true.mp h3 p hp
    exact beq_iff_eq.mp z
  · have z := List.all_eq_true.mp h4 y hy
    rw [hf] at z
    simp only [beq_self_eq_true, Bool.not_true, Bool.false_or, Bool.or_eq_true, beq_iff_eq] at z
    exact z
  · have z := List.all_eq_true.mp h5 y hy
    simp only [Bool.or_eq_true, Bool.not_eq_true', Bool.or_eq_false_iff, List.contains_iff_mem, beq_eq_false_iff_ne] at z
    rcases z with (z | z) | z
    · rcases hf with f | f
      · exact absurd f z.1
      · exact absurd f z.2
    · exact .inl z
    · refine .inr fun q => ?_
      have q' : N.contains y.1 = true := by simpa using q
      rw [q'] at z
      cases z
theorem blk_cx {N : List Str} {ns : List (Str × NameKind)} {scope : Scope} {own : List (Str × Nat)} {VL' AL' : List (Option Str)} {GL' : List Str} (cx : CxI P w K mg base k VL AL GL E X) (cn : CxN N ns X) (h : blkB N ns scope own VL' AL' GL' = true) (s : Shared) (H : Hp) (C : Addr) (cl : List (Str × Addr)) (fp : List Addr) :
    CxI P w K mg base k VL' AL' GL' E0 (X.blk s H scope (compEnvC scope cl C X.env) fp) ∧ CxN N (relN scope.names ns) (X.blk s H scope (compEnvC scope cl C X.env) fp) := by
  have hk := cn.kd
  have hn := cn.ns
  have e : (compEnvC scope cl C X.env).scope.names = relN scope.names ns := by
    show (relS scope X.env.scope).names = _
    unfold relS relN
    rw [hk, hn]
    simp
  unfold blkB at h
  simp only [Bool.and_eq_true] at h
  obtain ⟨⟨⟨⟨⟨⟨h1, _⟩, _⟩, _⟩, _⟩, h6⟩, h7⟩ := h
  refine ⟨⟨cx.eP, cx.ew, cx.eK, cx.em, cx.eb, cx.nd, ?_, fun x => ?_, cx.room, cx.gd, cx.calm, PassesOwn.never, takes0, cx.bl⟩, ⟨cn.n, e, eq_of_beq h1⟩⟩
  · show okAll X.N (compEnvC scope cl C X.env).scope.names VL' AL' GL' = true
    rw [e, cn.n]
    exact h6
  · by_cases hx : some x ∈ AL'
    · have z := List.all_eq_true.mp h7 _ hx
      refine .inr (.inr ?_)
      show (compEnvC scope cl C X.env).scope.names.lookup x = some .local
      rw [e]
      exact beq_iff_eq.mp z
    · exact .inr (.inl hx)
theorem yes_ {σ : St} {H : Hp} {Q : Bool → Hp → Prop} (h : Q true H) : tYes σ H Q := h
/-- [elt for tg in iter] -/
theorem w_lc0 {N : List Str} {ns : List (Str × NameKind)} {scope : Scope} {elt : Expr} (own : List (Str × Nat)) (VL' AL' : List (Option Str)) (GL' : List Str) (cx : CxI P w K mg base k VL AL GL E X) (cn : CxN N ns X) (hb : blkB N ns scope own VL' AL' GL' = true)
    (h : Wi X tg iter σ H fun J H1 => ∃ n f S, ItW J n f S ∧ ∃ (Iv : Addr → Nat → List V → Hp → Prop), (∃ R M L, Kn R M L H1 ∧ ∀ D H2, Kn R ((D, Is (.lst [])) :: M) L H2 → Iv D 0 [] H2) ∧ (∀ D i acc H, i ≤ n → Iv D i acc H → S H) ∧
      (∀ D i acc H, i < n → Iv D i acc H → ∀ X', CxI P w K mg base k VL' AL' GL' E0 X' → Wg X' tg (f i) (wipe σ (own.map (·.2))) H fun σ2 H2 => wipe σ2 (own.map (·.2)) = wipe σ (own.map (·.2)) ∧ ∀ X', CxI P w K mg base k VL' AL' GL' E0 X' → CxN N (relN scope.names ns) X' →
        We X' elt σ2 H2 fun y H4 => ∃ R M L, Kn R ((D, Is (.lst acc)) :: M) L H4 ∧ acc.length < 1000000 ∧ ∀ H5, Kn R ((D, Is (.lst (acc ++ [y]))) :: M) L H5 → Iv D (i + 1) (acc ++ [y]) H5) ∧ ∀ D acc H, Iv D n acc H → Q (.ref D) H)
    (hs : ∀ x, foldedSetIterable iter X.env x = pure x := by exact (fun _ => by kernel_rfl)) : We X (.ListComp elt [⟨tg, iter, [], 0⟩] scope pos) σ H Q := by
  have bc := @blk_cx P w K mg base k VL AL GL E X N ns scope own VL' AL' GL' cx cn hb
  refine ofPE (pe_lc (own := own) (g := fun v σ H Q => ∀ X', CxI P w K mg base k VL' AL' GL' E0 X' → Wg X' tg v σ H Q) (tt := tYes) (te := fun σ H Q => ∀ X', CxI P w K mg base k VL' AL' GL' E0 X' → CxN N (relN scope.names ns) X' → We X' elt σ H Q) cx.calm cx.nd piU ?_
    (fun s H C cl fp => ⟨fun pins s' σ H v u Q I r q => q _ (bc s _ C cl fp).1 pins s' u I r⟩) (fun _ _ _ _ _ => pts_nil) (fun s H C cl fp => ⟨fun pins s' σ H Q I q => q _ (bc s _ C cl fp).1 (bc s _ C cl fp).2 pins s' I⟩) hs) ?_
  · rw [cn.n]
    exact blk_ok hb cn.ns
  · refine fun pins s I => thn (h pins s I) fun v s1 q => thn q fun itv s2 q => ?_
    obtain ⟨it, fp, tn, J, H', e, I', T, t0, fpk, n, f, S, W, Iv, ⟨R, M, L, kn, p0⟩, pS, step, fin⟩ := q
    refine ⟨it, fp, tn, J, H', e, I', T, t0, fpk, fun D hD => ⟨fun i m H => m = n - i ∧ i ≤ n ∧ ∃ acc, Iv D i acc H, ⟨n, by simp, Nat.zero_le _, [], p0 D _ (kn.new hD rfl)⟩, ?_⟩⟩
    rintro i m H ⟨rfl, hi, acc, p⟩
    by_cases hlt : i < n
    · refine .inr ⟨W.go i H hlt (pS D i acc H hi p), fun H => ∃ acc, Iv D (i + 1) acc H, fun H' p' => ⟨n - (i + 1), by omega, rfl, hlt, p'⟩, fun x H' y => ?_⟩
      obtain ⟨rfl, rfl⟩ := W.yld i H x H' hlt (pS D i acc H hi p) y
      intro X' cx'
      refine fun pins s u I r => thn (step D i acc _ hlt p X' cx' pins s u I r) fun _ s' ⟨σ2, H2, I2, e2, q⟩ => ⟨σ2, H2, I2, e2, ?_⟩
      refine yes_ ?_
      refine iteT ?_
      intro X2 cx2 cn2
      refine fun pins s I => thn (q X2 cx2 cn2 pins s I) fun u s' ⟨y, H4, I4, r4, R, M, L, kn, hl, z⟩ => ⟨y, H4, I4, r4, acc, kn.is .h, Nat.lt_trans hl (by decide), ?_⟩
      exact ⟨_, z _ (kn.write .h rfl)⟩
    · have e : i = n := by omega
      subst e
      exact .inl ⟨W.stop H (pS D _ acc H hi p), fin D acc H p⟩
/-- [elt for tg in iter if c] -/
theorem w_lc1 {N : List Str} {ns : List (Str × NameKind)} {scope : Scope} {elt c : Expr} (own : List (Str × Nat)) (VL' AL' : List (Option Str)) (GL' : List Str) (cx : CxI P w K mg base k VL AL GL E X) (cn : CxN N ns X) (hb : blkB N ns scope own VL' AL' GL' = true)
    (h : Wi X tg iter σ H fun J H1 => ∃ n f S, ItW J n f S ∧ ∃ (Iv : Addr → Nat → List V → Hp → Prop), (∃ R M L, Kn R M L H1 ∧ ∀ D H2, Kn R ((D, Is (.lst [])) :: M) L H2 → Iv D 0 [] H2) ∧ (∀ D i acc H, i ≤ n → Iv D i acc H → S H) ∧
      (∀ D i acc H, i < n → Iv D i acc H → ∀ X', CxI P w K mg base k VL' AL' GL' E0 X' → Wg X' tg (f i) (wipe σ (own.map (·.2))) H fun σ2 H2 => wipe σ2 (own.map (·.2)) = wipe σ (own.map (·.2)) ∧ ∀ X', CxI P w K mg base k VL' AL' GL' E0 X' → CxN N (relN scope.names ns) X' →
        Wt X' c σ2 H2 fun b H3 => if b = true then ∀ X', CxI P w K mg base k VL' AL' GL' E0 X' → CxN N (relN scope.names ns) X' → We X' elt σ2 H3 fun y H4 => ∃ R M L, Kn R ((D, Is (.lst acc)) :: M) L H4 ∧ acc.length < 1000000 ∧ ∀ H5, Kn R ((D, Is (.lst (acc ++ [y]))) :: M) L H5 → Iv D (i + 1) (acc ++ [y]) H5
          else Iv D (i + 1) acc H3) ∧ ∀ D acc H, Iv D n acc H → Q (.ref D) H)
    (hs : ∀ x, foldedSetIterable iter X.env x = pure x := by exact (fun _ => by kernel_rfl)) : We X (.ListComp elt [⟨tg, iter, [c], 0⟩] scope pos) σ H Q := by
  have bc := @blk_cx P w K mg base k VL AL GL E X N ns scope own VL' AL' GL' cx cn hb
  refine ofPE (pe_lc (own := own) (g := fun v σ H Q => ∀ X', CxI P w K mg base k VL' AL' GL' E0 X' → Wg X' tg v σ H Q) (tt := fun σ H Q => ∀ X', CxI P w K mg base k VL' AL' GL' E0 X' → CxN N (relN scope.names ns) X' → Wt X' c σ H Q) (te := fun σ H Q => ∀ X', CxI P w K mg base k VL' AL' GL' E0 X' → CxN N (relN scope.names ns) X' → We X' elt σ H Q) cx.calm cx.nd piU ?_
    (fun s H C cl fp => ⟨fun pins s' σ H v u Q I r q => q _ (bc s _ C cl fp).1 pins s' u I r⟩) (fun s H C cl fp => pts_one ⟨fun pins s' σ H Q I q => q _ (bc s _ C cl fp).1 (bc s _ C cl fp).2 pins s' I⟩) (fun s H C cl fp => ⟨fun pins s' σ H Q I q => q _ (bc s _ C cl fp).1 (bc s _ C cl fp).2 pins s' I⟩) hs) ?_
  · rw [cn.n]
    exact blk_ok hb cn.ns
  · refine fun pins s I => thn (h pins s I) fun v s1 q => thn q fun itv s2 q => ?_
    obtain ⟨it, fp, tn, J, H', e, I', T, t0, fpk, n, f, S, W, Iv, ⟨R, M, L, kn, p0⟩, pS, step, fin⟩ := q
    refine ⟨it, fp, tn, J, H', e, I', T, t0, fpk, fun D hD => ⟨fun i m H => m = n - i ∧ i ≤ n ∧ ∃ acc, Iv D i acc H, ⟨n, by simp, Nat.zero_le _, [], p0 D _ (kn.new hD rfl)⟩, ?_⟩⟩
    rintro i m H ⟨rfl, hi, acc, p⟩
    by_cases hlt : i < n
    · refine .inr ⟨W.go i H hlt (pS D i acc H hi p), fun H => ∃ acc, Iv D (i + 1) acc H, fun H' p' => ⟨n - (i + 1), by omega, rfl, hlt, p'⟩, fun x H' y => ?_⟩
      obtain ⟨rfl, rfl⟩ := W.yld i H x H' hlt (pS D i acc H hi p) y
      intro X' cx'
      refine fun pins s u I r => thn (step D i acc _ hlt p X' cx' pins s u I r) fun _ s' ⟨σ2, H2, I2, e2, q⟩ => ⟨σ2, H2, I2, e2, ?_⟩
      intro X2 cx2 cn2
      refine fun pins s I => thn (q X2 cx2 cn2 pins s I) fun b s' ⟨H3, I3, q⟩ => ⟨H3, I3, ?_⟩
      cases b with
      | false =>
        rw [if_neg Bool.false_ne_true] at q ⊢
        exact ⟨acc, q⟩
      | true =>
        rw [if_pos rfl] at q ⊢
        intro X2 cx2 cn2
        refine fun pins s I => thn (q X2 cx2 cn2 pins s I) fun u s' ⟨y, H4, I4, r4, R, M, L, kn, hl, z⟩ => ⟨y, H4, I4, r4, acc, kn.is .h, Nat.lt_trans hl (by decide), ?_⟩
        exact ⟨_, z _ (kn.write .h rfl)⟩
    · have e : i = n := by omega
      subst e
      exact .inl ⟨W.stop H (pS D _ acc H hi p), fin D acc H p⟩
end
end U

/-! U5: classmethods, classes by a local name, methods of texts and lists. -/
namespace U
open PySem PySem.Spec L2
open PySem.W (findIn)
open PyProof.Rows hiding St
section
variable {P : Program} {w : World} {K : PySem.W.Frag} {mg : Str → Option Value} {base : Heap} {k : Nat} {VL AL : List (Option Str)} {GL : List Str} {E : XK} {X : Cx} {σ : St} {H : Hp} {Q : VK} {pos p : Pos} {e : Expr} {es : List Expr} {x : Str} {j : Nat} {ps : List Str} {sp : Sp}
/-- cls(..), cls a local name that holds the class -/
theorem w_makeL (cx : CxI P w K mg base k VL AL GL E X) {C : Addr} (hv : SlotIs x (.ref C) VL σ) {z : Str} (d : Cl P w K mg base C z j ps sp) (hj : Nat.ble (j + 1) k = true)
    (h : Wa X (e :: es) σ H fun vs H1 => ∀ y dx, H1 y = none → H1 dx = none → dx ≠ y → sp (.ref y :: vs) (upd (upd H1 dx (.own y)) y (.ins C dx [])) (MkQ Q y) E)
    (he : starEach (e :: es) X.env = (false, eval e X.env) :: starEach es X.env := by kernel_rfl) (hpl : (backTo pos (starEach es X.env)).any (·.1) = false := by kernel_rfl) : We X (.Call (.Name x p) (e :: es) [] pos) σ H Q := by
  obtain ⟨i, hN, hσ, hvis, hd, hcd⟩ := cx.var hv
  obtain ⟨f, fd, F, b, mk, hm⟩ := d
  have r := cx.rg' (Nat.le_of_ble_eq_true hj)
  have cx' := cx
  obtain ⟨e1, e2, e3, e4, e5, _⟩ := cx
  subst e1; subst e2; subst e3; subst e4; subst e5
  intro pins s I
  refine wpAny_Call_Name_kw (thn ((pe_var (pos := p) hN hvis hd hcd).run pins s σ H (fun v H1 => v = .ref C ∧ H1 = H) I ⟨.ref C, hσ, rfl, rfl⟩) fun u s0 ⟨v, H0, I0, r0, ev, eh⟩ => ?_)
  subst ev
  subst eh
  cases r0
  refine PySem.W.callWith_K (h₀ := X.base) I0.ok.mod.kin mk.kp (thn (h pos pins s0 I0) fun us s1 ⟨vs, H1, I1, rr, q⟩ => ⟨I1.kIn, ?_⟩) he hpl
  have q1 := q (s1.heap.objs.size + 1) s1.heap.objs.size (I1.hok.fresh (Nat.le_succ _)) (I1.hok.fresh (Nat.le_refl _)) (Nat.ne_of_lt (Nat.lt_succ_self _))
  have I2 := Inv.made (C := C) I1
  have rel : Vals (V.ref (s1.heap.objs.size + 1) :: vs) (Value.ref (s1.heap.objs.size + 1) :: us) := .cons rfl rr
  refine wpAny_call (make_map (f := f) I1.kIn mk.makes mk.init (beq_iff_eq.mp mk.fn) (codeAny_mono (F.go (A := X.A.under (.builtin "type.__call__" ⟨.ref C :: us, []⟩)) (E' := X.xe) (us := Value.ref (s1.heap.objs.size + 1) :: us) ?_ (r.make C us []) I2 ?_ rel q1 (cx'.thru I2)) fun r s' hq => ?_))
  · have z := (I2.env0.make C us []).frames
    exact z
  · have z := b _ (Value.ref (s1.heap.objs.size + 1) :: us) I2.kIn (by rw [List.append_nil, ← rel.length]; exact F.len _ _ _ _ q1)
    rw [List.append_nil] at z
    exact z
  · match r, hq with
    | .error e, hq => exact hq
    | .ok (.ret u), hq =>
      obtain ⟨v, H', I3, rv, ev, q3⟩ := hq
      subst ev
      exact ⟨rv, ⟨V.ref (s1.heap.objs.size + 1), H', I3, rfl, q3⟩⟩
/-- a classmethod of the class at C -/
def Cm (P : Program) (w : World) (K : PySem.W.Frag) (mg : Str → Option Value) (base : Heap) (C : Addr) (x : Str) (j : Nat) (ps : List Str) (sp : Sp) : Prop :=
  ∃ p f fd mc, Fk P w K mg base j f fd ps sp ∧ Binds K fd ps [] ∧ ClX.CRead K C mc ∧ ClX.CMet K C mc x p f
/-- C.m(e, ..), C a class, m a classmethod -/
theorem w_cmeth (cx : CxI P w K mg base k VL AL GL E X) {C : Addr} {o : Expr} {m : Str} {apos : Pos} {pl : Sem Bool} (d : Cm P w K mg base C m j ps sp) (hj : Nat.ble j k = true)
    (h : We X o σ H fun x H1 => x = .ref C ∧ Wa X (e :: es) σ H1 fun vs H2 => sp (.ref C :: vs) H2 Q E)
    (hst : starEach (e :: es) X.env = (false, eval e X.env) :: starEach es X.env := by kernel_rfl) (hpl : (backTo pos (starEach es X.env)).any (·.1) = false := by kernel_rfl)
    (ht : eval (.Call (.Attribute o m apos) (e :: es) [] pos) X.env = (do
      let ov ← eval o X.env
      standAt apos.atName
      let (f, first) ← holding [ov] (getMethod ov m pl)
      callWith pos f first (backTo pos (starEach (e :: es) X.env)) (backToKw pos (keywordEach [] X.env))) := by with_unfolding_all rfl) : We X (.Call (.Attribute o m apos) (e :: es) [] pos) σ H Q := by
  obtain ⟨q, f, fd, mc, F, b, rd, cm⟩ := d
  have r := cx.rg' (Nat.le_of_ble_eq_true hj)
  have cx' := cx
  obtain ⟨e1, e2, e3, e4, e5, _⟩ := cx
  subst e1; subst e2; subst e3; subst e4; subst e5
  intro pins s I
  refine PySem.W.methodCall_KW (pl := pl) (thn (h pins s I) fun u s1 ⟨x, H1, I1, rx, ex, q⟩ => ?_) ht
  subst ex
  cases (show u = Value.ref C from rx)
  refine ClX.getmethcm_ok I1 rd cm fun s2 I2 => ?_
  refine ClX.callwith_cm I2 (ClX.base_none I1 (Nat.le_refl _)) cm.fi (thn (q pos _ s2 I2) fun us s3 ⟨vs, H2, I3, rv, q2⟩ => ⟨⟨ClX.pin_at I3, I3.kIn⟩, ?_⟩) hst hpl
  have rel : Vals (V.ref C :: vs) (Value.ref C :: us) := .cons rfl rv
  have hl : (Value.ref C :: us).length = ps.length := by rw [← rel.length]; exact F.len _ _ _ _ q2
  have z : wpAny (model X.prog X.w) X.A (PySem.call (.ref s1.heap.objs.size) us) (EP X ((s1.heap.objs.size, PySem.W.methodObj (.ref f) (.ref C)) :: pins) σ Q) X.xe s3 := by
    refine wpAny_call (PySem.W.method_call (ClX.pin_at I3) (codeAny_mono (F.go (frm_ I3) r I3 (args := ⟨.ref C :: us, []⟩) (us := .ref C :: us) ?_ rel q2 (cx'.thru I3)) fun rz s' hq => ?_))
    · have z := b s3 (Value.ref C :: us) I3.kIn (by rw [List.append_nil]; exact hl)
      rw [List.append_nil] at z
      exact z
    · match rz, hq with
      | .error e, hq => exact hq
      | .ok (.ret u), hq => exact hq
  exact thn z fun _ _ y => ClX.unpinE y
/-- text.split(sep) -/
theorem w_split (cx : CxI P w K mg base k VL AL GL E X) {o : Expr} {apos : Pos} (h : We X o σ H fun x H1 => ∃ a : Str, x = .str a ∧ We X e σ H1 fun y H2 => ∃ (b : Str) (R : Hp → Prop) (M : List (Addr × (HO → Prop))) (L : List (Addr × Obj)), y = .str b ∧ (b.length == 0) = false ∧ a.length + 2 ≤ sizeLine ∧ Kn R M L H2 ∧
      ∀ p H3, Kn R ((p, Is (.lst ((Txt.split a b).map V.str))) :: M) L H3 → Q (.ref p) H3)
    (hbase : attributeBase o "split" X.env (eval o X.env) = eval o X.env := by kernel_rfl)
    (hfew : ((backTo pos (starEach [e] X.env)).all (fun x => !x.1) && (backToKw pos (keywordEach [] X.env)).all (fun x => x.1.isSome)
      && decide ([e].length + ([] : List Keyword).length + (if ([] : List Keyword).isEmpty then 0 else 1) < 30)) = true := by kernel_rfl)
    (hline : (apos.endLine == pos.line) = true := by kernel_rfl) (hs : starEach [e] X.env = (false, eval e X.env) :: starEach [] X.env := by kernel_rfl) (hplain : (backTo pos (starEach [] X.env)).any (·.1) = false := by kernel_rfl) :
    We X (.Call (.Attribute o "split" apos) [e] [] pos) σ H Q := by
  refine ofPE (pe_bm PySem.F.plainAttrs_str PySem.F.slot_str_split PySem.F.type_str_split mt_split peU (pa_cons peU pa_nil hs) hbase hfew hline hs hplain) ?_
  refine fun pins s I => thn (h pins s I) fun v s1 ⟨x, H1, I1, r1, a, ex, q⟩ => ⟨x, H1, I1, r1, by rw [ex]; rfl, ?_⟩
  refine fun pins s I => thn (q pins s I) fun v s1 ⟨y, H2, I2, r2, b, R, M, L, ey, c1, c2, kn, z⟩ => ⟨y, H2, I2, r2, a, b, ex, by rw [ey], c1, c2, fun p hp => z p _ (kn.new hp rfl)⟩
/-! ### lists -/
variable {R B : Hp → Prop} {M M' : List (Addr × (HO → Prop))} {L : List (Addr × Obj)} {a b : Addr} {xs ys : List V} {A : HO → Prop}
theorem o_cat (kn : Kn R M L H) (h1 : Has a (Is (.lst xs)) M) (h2 : Has b (Is (.lst ys)) M) (hl : xs.length + ys.length ≤ 1000000) (h : ∀ p H', Kn R ((p, Is (.lst (xs ++ ys))) :: M) L H' → Q (.ref p) H') : Wop X (binaryOp .Add) (.ref a) (.ref b) H Q :=
  ofOp op_cat ⟨a, b, xs, ys, rfl, rfl, kn.is h1, kn.is h2, Nat.le_trans hl (by decide), fun p hp => h p _ (kn.new hp rfl)⟩
theorem Kn.only (kn : Kn R M L H) (h : Has a A M) : Kn R [(a, A)] L H := kn.perm (fun q hq => by
  have e : q = (a, A) := by simpa using hq
  rw [e]; exact h.mem) fun _ => by simp
theorem Kn.none (kn : Kn R M L H) : Kn R [] L H := kn.perm (fun q hq => by cases hq) fun _ => List.nodup_nil
theorem o_neL0 (cx : CxI P w K mg base k VL AL GL E X) (kn : Kn R M L H) (h1 : Has a (Is (.lst [])) M) (h2 : Has b (Is (.lst [])) M) (h : Q (.bl false) H) : Wop X (compareOp .NotEq) (.ref a) (.ref b) H Q :=
  o_neD cx (d_lst kn h1 .nil) (d_lst kn h2 .nil) (by kernel_rfl) (by kernel_rfl) rfl rfl fun c hc => by
    have z : c = true := hc.mpr rfl
    rw [z]; exact h
theorem o_neB {x y : Bool} (h : Q (.bl (!decide (x = y))) H) : Wop X (compareOp .NotEq) (.bl x) (.bl y) H Q := ofOp op_ne ⟨rfl, by rw [show decide (V.bl x = V.bl y) = decide (x = y) from by simp]; exact h⟩
theorem o_eqB {x y : Bool} (h : Q (.bl (decide (x = y))) H) : Wop X (compareOp .Eq) (.bl x) (.bl y) H Q := ofOp op_eq ⟨rfl, by rw [show decide (V.bl x = V.bl y) = decide (x = y) from by simp]; exact h⟩
end
/-! ### which kind of goal stands -/
section
variable {X : Cx} {σ : St} {H : Hp} {Q : VK} {e : Expr} {x y v : V} {f : Value → Value → Sem Value} {g : Value} {xs : List V} {at_ : Str} {es : List Expr} {D : Ends} {st : List Stmt}
theorem ck_e (h : We X e σ H Q) : We X e σ H Q := h
theorem ck_a {Q : List V → Hp → Prop} (h : Wa X es σ H Q) : Wa X es σ H Q := h
theorem ck_s (h : Wss X st D σ H) : Wss X st D σ H := h
theorem ck_o (h : Wop X f x y H Q) : Wop X f x y H Q := h
theorem ck_c (h : Wcall X g xs H Q) : Wcall X g xs H Q := h
theorem ck_x (h : Wix X x y H Q) : Wix X x y H Q := h
theorem ck_at (h : Wat X x at_ H Q) : Wat X x at_ H Q := h
theorem ck_t {Q : Bool → Hp → Prop} (h : Wt X e σ H Q) : Wt X e σ H Q := h
theorem ck_w {Q : Bool → Hp → Prop} (h : Ww X e σ H Q) : Ww X e σ H Q := h
theorem ck_p {Q : Hp → Prop} (h : Wset X x y v H Q) : Wset X x y v H Q := h
theorem ck_f (h : Wfm X x H Q) : Wfm X x H Q := h
theorem ck_j {acc : Str} {Q : Str → Hp → Prop} (h : Wj X es acc σ H Q) : Wj X es acc σ H Q := h
theorem ck_g {Q : St → Hp → Prop} (h : Wg X e v σ H Q) : Wg X e v σ H Q := h
end
end U

/-! U6: from the law's promise to the row. -/
namespace U
open PySem PySem.Spec L2
open PySem.W (findIn)
open PyProof.Rows hiding St
theorem rg_caller {k : Nat} (h : Room k callerA) : RmG k callerA := ⟨h, rfl⟩
section
variable {P : Program} {w : World} {K : PySem.W.Frag} {mg mb : Str → Option Value} {k : Nat} {fa a : Addr} {fd : FuncData} {x : Str} {sp : Sp} {t : Shared} {vs : List Value} {ns : List Int}
/-- the law's def is run on the script, all else untracked -/
theorem law_go (inK : K.In t.heap) (glob : t.heap.Ns mainGlobals mg) (bns : t.heap.Ns builtinsNs mb) (bval : ∀ y : Str, y ≠ "__name__" → mb y = bootBuiltins y) (lim : t.heap.NoLimit) (gens : t.gens = #[]) (obj : t.heap.get? a = some { cls := .type "list", data := .seq vs.toArray })
    (iz : IntsAre vs ns) (len : ns.length ≤ sizeLine) (room : Room k callerA) (F : ∀ base : Heap, K.In base → base.Ns mainGlobals mg → Fk P w K mg base k fa fd [x] sp) (bind : ∀ (s : Shared) (u : Value), BindsTo s fd ⟨[u], []⟩ [(x, u)])
    (law : ∀ H : Hp, SqL K H a (ns.map V.int) → sp [.ref a] H (fun v _ => v = .bl true) fun _ _ _ => False) :
    codeAny (model P w) callerA (.call (.ref fa) ⟨[.ref a], []⟩) (fun r s' => r = .ok (.ret (.bool true)) ∧ OldK t.heap s'.heap ∧ s'.os = t.os ∧ AllBare s'.gens) t := by
  let O : Obj := { cls := .type "list", data := .seq vs.toArray }
  let H : Hp := fun b => if b = a ∧ K.lookup a = none then some (.frz O (.lst (ns.map V.int))) else none
  have only : ∀ b u, H b = some u → b = a ∧ K.lookup a = none ∧ u = .frz O (.lst (ns.map V.int)) := by
    intro b u e
    by_cases c : b = a ∧ K.lookup a = none
    · have e' : some (HO.frz O (.lst (ns.map V.int))) = some u := (if_pos c).symm.trans e
      exact ⟨c.1, c.2, (Option.some.inj e').symm⟩
    · have e' : (none : Option HO) = some u := (if_neg c).symm.trans e
      cases e'
  have rel := vals_ints iz
  have lv := iz.length
  have held : HOk P w H t.heap := by
    intro b u e
    obtain ⟨rfl, _, rfl⟩ := only b u e
    exact ⟨obj, by rw [List.length_map]; exact len, vs, _, rel, obj⟩
  have seq : SqL K H a (ns.map V.int) := by
    cases q : K.lookup a with
    | none => exact .inl (.inr ⟨O, if_pos ⟨rfl, q⟩⟩)
    | some o =>
      have o1 := inK a o q
      rw [obj] at o1
      cases o1
      exact .inr ⟨O, vs.toArray, _, q, rfl, rfl, rfl, by rw [List.size_toArray, lv]; exact len, by simpa using rel⟩
  have un : ∀ b, (b = a → K.lookup a ≠ none) → H b = none := fun b c => if_neg fun z => c z.1 z.2
  have dict : ∀ {b : Addr} {m : Str → Option Value}, t.heap.Ns b m → (hidT t.heap H).Ns b m := by
    rintro b m ⟨o, es, ep, e, d, r⟩
    refine ⟨o, es, ep, hidT_get e (if_neg fun z => ?_), d, r⟩
    rw [z.1, obj] at e
    cases e
    cases d
  have kb : K.In (hidT t.heap H) := fun b o e => hidT_get (inK b o e) (un b fun z => by rw [← z, e]; exact fun y => nomatch y)
  obtain ⟨mc, lim1, lim2⟩ := lim
  have env : Env0 P w K mg (hidT t.heap H) callerA [] t H :=
    ⟨rfl, ⟨kb, dict glob, ⟨mb, dict bns, bval⟩, ⟨mc, dict lim1, lim2⟩⟩, fun b o e => of_hidT e, Nat.le_of_eq (hidT_size _ _), trivial, fun b z => (nomatch (show b ∈ ([] : List Addr) from z)), held, .of_eq gens⟩
  have go := (F _ kb (dict glob)).run callerA [] t H ⟨[.ref a], []⟩ [.ref a] [.ref a] _ _ (rg_caller room) env (bind t (.ref a)) (.cons rfl .nil) (law H seq)
  refine codeAny_mono go fun r t' q => ?_
  match r, q with
  | .error e, q => exact (noE (E' := fun _ _ => False) q).elim
  | .ok .next, q => exact q.elim
  | .ok .brk, q => exact q.elim
  | .ok .cont, q => exact q.elim
  | .ok (.ret u), q =>
    obtain ⟨v, H', eos, bare, u1, ok', rv, ev⟩ := q
    have ev' : v = .bl true := ev
    subst ev'
    cases (show u = Value.bool true from rv)
    refine ⟨rfl, OldK.of_keep fun b o e => ?_, eos, bare⟩
    cases z : H b with
    | none => exact u1.keep b o e z (fun y => nomatch (show b ∈ ([] : List Addr) from y)) (fun y => nomatch y)
    | some y =>
      obtain ⟨rfl, _, rfl⟩ := only b y z
      obtain ⟨e2, _⟩ := ok' b _ (u1.frzs b _ _ z)
      rw [obj] at e
      cases e
      exact e2
end
theorem walk_G {l : PySem.W.OpenLaw} {k : Nat} {q : Program} {loose : List Str} {XP : (Str → Option Value) → Heap → Prop} {YP : World → Heap → Prop} {d : DefRec} {K : Params → PySem.W.Frag} {sp : World → Sp} {x : Str} (hm : l.most = some 63) (hdf : d.params.defaults = []) (room : Room k callerA)
    (hY : ∀ (w : World) (h : Heap), YP w h → (K w.params).In h)
    (F : ∀ (w : World) (mg : Str → Option Value) (fa : Addr) (h : Heap), (K w.params).In h → h.Ns mainGlobals mg → mg d.name = some (.ref fa) →
      ∃ fd : FuncData, (∀ (s : Shared) (u : Value), BindsTo s fd ⟨[u], []⟩ [(x, u)]) ∧ ∀ base : Heap, (K w.params).In base → base.Ns mainGlobals mg → Fk l.prog w (K w.params) mg base k fa fd [x] (sp w))
    (law : ∀ (w : World) (H : Hp) (a : Addr) (ns : List Int), ns.length ≤ 63 → SqL (K w.params) H a (ns.map V.int) → sp w [.ref a] H (fun v _ => v = .bl true) fun _ _ _ => False) :
    PySem.W.WalkO q loose XP YP l.row.toRowW d [] (fun f vs => PySem.call f vs) := by
  refine Att.attach_call hm hdf fun w _ t mg mb fa o _ _ _ a vs ns G Y _ _ _ nm obj iz len gens => ?_
  obtain ⟨fd, bind, F⟩ := F w mg fa _ (hY w _ Y) G.T.g nm
  exact law_go (hY w _ Y) G.T.g G.T.b G.T.builtins G.T.nolimit gens obj iz (Nat.le_trans len (by decide)) room F bind fun H hs => law w H a ns len hs
/-- a name that the module does not give -/
def absB (K : PySem.W.Frag) (x : Str) : Bool := match PySem.W.nsIn K mainGlobals x with
  | some none => true
  | _ => false
theorem bl_of {K : PySem.W.Frag} {h : Heap} {mg : Str → Option Value} (X : K.In h) (G : h.Ns mainGlobals mg) (z : blts.all (absB K) = true) : ∀ x ∈ blts, mg x = none := by
  intro x hx
  have q := List.all_eq_true.mp z x hx
  unfold absB at q
  cases e : PySem.W.nsIn K mainGlobals x with
  | none => rw [e] at q; cases q
  | some o =>
    cases o with
    | none => exact PySem.W.mg_none_of X G e
    | some v => rw [e] at q; cases q
theorem sg_no {K : PySem.W.Frag} {d : Addr} {e1 e2 : DictEntry} {n : Nat} (lk : K.lookup d = some ⟨.type "dict", none, .dict #[e1, e2] n, #[]⟩) (h1 : ∃ t, e1.key = .str "fixed" t) (h2 : ∃ t, e2.key = .str "free" t) : ∀ z : Str, ¬ (z = "fixed" ∨ z = "free") → PySem.W.nsIn K d z = some none := by
  intro z hz
  obtain ⟨t1, k1⟩ := h1
  obtain ⟨t2, k2⟩ := h2
  have n1 : ("fixed" : Str) ≠ z := fun e => hz (.inl e.symm)
  have n2 : ("free" : Str) ≠ z := fun e => hz (.inr e.symm)
  have i1 : e1.key.isStr z = false := by rw [k1, PySem.W.isStr_of]; simp [Value.isStrOf, n1]
  have i2 : e2.key.isStr z = false := by rw [k2, PySem.W.isStr_of]; simp [Value.isStrOf, n2]
  unfold PySem.W.nsIn
  rw [lk]
  have f : (#[e1, e2] : Array DictEntry).toList.find? (fun e => e.key.isStr z) = none := by simp [i1, i2]
  show (match (#[e1, e2] : Array DictEntry).toList.find? (fun e => e.key.isStr z) with | some e => some (some e.val) | none => if (#[e1, e2] : Array DictEntry).toList.any (·.refKey) then none else some none) = some none
  rw [f]
  have r1 : e1.refKey = false := by unfold DictEntry.refKey; rw [k1]
  have r2 : e2.refKey = false := by unfold DictEntry.refKey; rw [k2]
  simp [r1, r2]
theorem kit_self {K : PySem.W.Frag} {t : Value} : PySem.W.kitOne K t t = some true := by
  unfold PySem.W.kitOne
  rw [if_pos (by simp)]
theorem kit_own {K : PySem.W.Frag} {t : Value} {C : Addr} {r : Bool} (c : Cls K C) (ty : PySem.W.typeIn K (.ref C) = some (.type "type")) (h : PySem.W.subIn K t (.ref C) = some r) (ne : (t == Value.ref C) = false) : PySem.W.kitOne K t (.ref C) = some r := by
  have hc : (PySem.W.clsIn K C).isSome = true := by
    obtain ⟨cd, hc, _⟩ := PySem.W.any_some c.hd
    rw [hc]
    rfl
  unfold PySem.W.kitOne PySem.W.kitCls
  rw [ne, if_neg Bool.false_ne_true]
  show (if ((PySem.W.clsIn K C).isSome && PySem.W.typeIn K (.ref C) == some (.type "type")) = true then PySem.W.subIn K t (.ref C) else none) = some r
  rw [hc, ty]
  exact h
end U

namespace U
open PySem PySem.Spec L2
open PySem.W (findIn isFn mroIn Looks InstAt)
open PyProof.Rows hiding St
def top (i : Nat) : Stmt := PySem.Challenge.pw_pulserope_k02_frames.main.body.getD i (.Pass ⟨0, 0, 0, 0⟩)
abbrev s_BadFrame_init : Stmt := inClass (top 2) 0
abbrev n_BadFrame_init : List Str := ["self", "name"]
def ns_BadFrame_init : List (Str × NameKind) := [("self", .local), ("name", .local), ("RopeError", .globalImplicit)]
abbrev v_BadFrame_init : List (Option Str) := [some "self", some "name"]
abbrev g_BadFrame_init : List Str := ["RopeError"]
theorem ck_BadFrame_init : okAll n_BadFrame_init ns_BadFrame_init v_BadFrame_init v_BadFrame_init g_BadFrame_init = true := by decide +kernel
theorem nq_BadFrame_init : (defScope s_BadFrame_init).names = ns_BadFrame_init := rfl
theorem sc_BadFrame_init : FnScope n_BadFrame_init ["self", "name"] (defScope s_BadFrame_init) := ⟨rfl, rfl, rfl, by decide +kernel, rfl, by decide +kernel, by decide +kernel⟩
abbrev s_BadText_init : Stmt := inClass (top 3) 0
abbrev n_BadText_init : List Str := ["self", "index"]
def ns_BadText_init : List (Str × NameKind) := [("self", .local), ("index", .local), ("RopeError", .globalImplicit)]
abbrev v_BadText_init : List (Option Str) := [some "self", some "index"]
abbrev g_BadText_init : List Str := ["RopeError"]
theorem ck_BadText_init : okAll n_BadText_init ns_BadText_init v_BadText_init v_BadText_init g_BadText_init = true := by decide +kernel
theorem nq_BadText_init : (defScope s_BadText_init).names = ns_BadText_init := rfl
theorem sc_BadText_init : FnScope n_BadText_init ["self", "index"] (defScope s_BadText_init) := ⟨rfl, rfl, rfl, by decide +kernel, rfl, by decide +kernel, by decide +kernel⟩
abbrev s_number_of : Stmt := top 8
abbrev n_number_of : List Str := ["text", "digit"]
def ns_number_of : List (Str × NameKind) := [("text", .local), ("len", .globalImplicit), ("MOST_DIGITS", .globalImplicit), ("all", .globalImplicit), ("int", .globalImplicit)]
abbrev v_number_of : List (Option Str) := [some "text", none]
abbrev g_number_of : List Str := ["len", "MOST_DIGITS", "all", "int"]
theorem ck_number_of : okAll n_number_of ns_number_of v_number_of v_number_of g_number_of = true := by decide +kernel
abbrev bo_number_of_0 : List (Str × Nat) := [("digit", 1)]
abbrev bv_number_of_0 : List (Option Str) := [none, some "digit"]
abbrev ba_number_of_0 : List (Option Str) := [none, some "digit"]
abbrev bg_number_of_0 : List Str := ["DIGITS"]
theorem nq_number_of : (defScope s_number_of).names = ns_number_of := rfl
theorem sc_number_of : FnScope n_number_of ["text"] (defScope s_number_of) := ⟨rfl, rfl, rfl, by decide +kernel, rfl, by decide +kernel, by decide +kernel⟩
abbrev s_Frame_init : Stmt := inClass (top 9) 1
abbrev n_Frame_init : List Str := ["self", "pieces", "front", "back"]
def ns_Frame_init : List (Str × NameKind) := [("self", .local), ("pieces", .local), ("front", .local), ("back", .local), ("Frame", .globalImplicit), ("BadFrame", .globalImplicit), ("SIGNS", .globalImplicit)]
abbrev v_Frame_init : List (Option Str) := [some "self", some "pieces", some "front", some "back"]
abbrev g_Frame_init : List Str := ["Frame", "BadFrame", "SIGNS"]
theorem ck_Frame_init : okAll n_Frame_init ns_Frame_init v_Frame_init v_Frame_init g_Frame_init = true := by decide +kernel
theorem nq_Frame_init : (defScope s_Frame_init).names = ns_Frame_init := rfl
theorem sc_Frame_init : FnScope n_Frame_init ["self", "pieces", "front", "back"] (defScope s_Frame_init) := ⟨rfl, rfl, rfl, by decide +kernel, rfl, by decide +kernel, by decide +kernel⟩
abbrev s_Frame_parse : Stmt := inClass (top 9) 2
abbrev n_Frame_parse : List Str := ["cls", "text", "parts", "pieces"]
def ns_Frame_parse : List (Str × NameKind) := [("cls", .local), ("text", .local), ("parts", .local), ("pieces", .local), ("SIGNS", .globalImplicit), ("BadText", .globalImplicit), ("len", .globalImplicit), ("number_of", .globalImplicit)]
abbrev v_Frame_parse : List (Option Str) := [some "cls", some "text", some "parts", some "pieces"]
abbrev g_Frame_parse : List Str := ["SIGNS", "BadText", "len", "number_of"]
theorem ck_Frame_parse : okAll n_Frame_parse ns_Frame_parse v_Frame_parse v_Frame_parse g_Frame_parse = true := by decide +kernel
theorem nq_Frame_parse : (defScope s_Frame_parse).names = ns_Frame_parse := rfl
theorem sc_Frame_parse : FnScope n_Frame_parse ["cls", "text"] (defScope s_Frame_parse) := ⟨rfl, rfl, rfl, by decide +kernel, rfl, by decide +kernel, by decide +kernel⟩
abbrev s_Frame_slots : Stmt := inClass (top 9) 3
abbrev n_Frame_slots : List Str := ["self"]
def ns_Frame_slots : List (Str × NameKind) := [("self", .local)]
abbrev v_Frame_slots : List (Option Str) := [some "self"]
abbrev g_Frame_slots : List Str := []
theorem ck_Frame_slots : okAll n_Frame_slots ns_Frame_slots v_Frame_slots v_Frame_slots g_Frame_slots = true := by decide +kernel
theorem nq_Frame_slots : (defScope s_Frame_slots).names = ns_Frame_slots := rfl
theorem sc_Frame_slots : FnScope n_Frame_slots ["self"] (defScope s_Frame_slots) := ⟨rfl, rfl, rfl, by decide +kernel, rfl, by decide +kernel, by decide +kernel⟩
abbrev s_Frame_turn : Stmt := inClass (top 9) 4
abbrev n_Frame_turn : List Str := ["self"]
def ns_Frame_turn : List (Str × NameKind) := [("self", .local)]
abbrev v_Frame_turn : List (Option Str) := [some "self"]
abbrev g_Frame_turn : List Str := []
theorem ck_Frame_turn : okAll n_Frame_turn ns_Frame_turn v_Frame_turn v_Frame_turn g_Frame_turn = true := by decide +kernel
theorem nq_Frame_turn : (defScope s_Frame_turn).names = ns_Frame_turn := rfl
theorem sc_Frame_turn : FnScope n_Frame_turn ["self"] (defScope s_Frame_turn) := ⟨rfl, rfl, rfl, by decide +kernel, rfl, by decide +kernel, by decide +kernel⟩
abbrev s_Frame_text : Stmt := inClass (top 9) 5
abbrev n_Frame_text : List Str := ["self"]
def ns_Frame_text : List (Str × NameKind) := [("self", .local)]
abbrev v_Frame_text : List (Option Str) := [some "self"]
abbrev g_Frame_text : List Str := []
theorem ck_Frame_text : okAll n_Frame_text ns_Frame_text v_Frame_text v_Frame_text g_Frame_text = true := by decide +kernel
theorem nq_Frame_text : (defScope s_Frame_text).names = ns_Frame_text := rfl
theorem sc_Frame_text : FnScope n_Frame_text ["self"] (defScope s_Frame_text) := ⟨rfl, rfl, rfl, by decide +kernel, rfl, by decide +kernel, by decide +kernel⟩
abbrev s_Frame_slot_of : Stmt := inClass (top 9) 6
abbrev n_Frame_slot_of : List Str := ["self", "piece", "direction"]
def ns_Frame_slot_of : List (Str × NameKind) := [("self", .local), ("piece", .local), ("direction", .local)]
abbrev v_Frame_slot_of : List (Option Str) := [some "self", some "piece", some "direction"]
abbrev g_Frame_slot_of : List Str := []
theorem ck_Frame_slot_of : okAll n_Frame_slot_of ns_Frame_slot_of v_Frame_slot_of v_Frame_slot_of g_Frame_slot_of = true := by decide +kernel
theorem nq_Frame_slot_of : (defScope s_Frame_slot_of).names = ns_Frame_slot_of := rfl
theorem sc_Frame_slot_of : FnScope n_Frame_slot_of ["self", "piece", "direction"] (defScope s_Frame_slot_of) := ⟨rfl, rfl, rfl, by decide +kernel, rfl, by decide +kernel, by decide +kernel⟩
abbrev s_Frame_pulse_at : Stmt := inClass (top 9) 7
abbrev n_Frame_pulse_at : List Str := ["self", "slot"]
def ns_Frame_pulse_at : List (Str × NameKind) := [("self", .local), ("slot", .local)]
abbrev v_Frame_pulse_at : List (Option Str) := [some "self", some "slot"]
abbrev g_Frame_pulse_at : List Str := []
theorem ck_Frame_pulse_at : okAll n_Frame_pulse_at ns_Frame_pulse_at v_Frame_pulse_at v_Frame_pulse_at g_Frame_pulse_at = true := by decide +kernel
theorem nq_Frame_pulse_at : (defScope s_Frame_pulse_at).names = ns_Frame_pulse_at := rfl
theorem sc_Frame_pulse_at : FnScope n_Frame_pulse_at ["self", "slot"] (defScope s_Frame_pulse_at) := ⟨rfl, rfl, rfl, by decide +kernel, rfl, by decide +kernel, by decide +kernel⟩
abbrev s_Frame_eq : Stmt := inClass (top 9) 8
abbrev n_Frame_eq : List Str := ["self", "other"]
def ns_Frame_eq : List (Str × NameKind) := [("self", .local), ("other", .local), ("isinstance", .globalImplicit), ("Frame", .globalImplicit)]
abbrev v_Frame_eq : List (Option Str) := [some "self", some "other"]
abbrev g_Frame_eq : List Str := ["isinstance", "Frame"]
theorem ck_Frame_eq : okAll n_Frame_eq ns_Frame_eq v_Frame_eq v_Frame_eq g_Frame_eq = true := by decide +kernel
theorem nq_Frame_eq : (defScope s_Frame_eq).names = ns_Frame_eq := rfl
theorem sc_Frame_eq : FnScope n_Frame_eq ["self", "other"] (defScope s_Frame_eq) := ⟨rfl, rfl, rfl, by decide +kernel, rfl, by decide +kernel, by decide +kernel⟩
abbrev s_Frame_repr : Stmt := inClass (top 9) 9
abbrev n_Frame_repr : List Str := ["self"]
def ns_Frame_repr : List (Str × NameKind) := [("self", .local)]
abbrev v_Frame_repr : List (Option Str) := [some "self"]
abbrev g_Frame_repr : List Str := []
theorem ck_Frame_repr : okAll n_Frame_repr ns_Frame_repr v_Frame_repr v_Frame_repr g_Frame_repr = true := by decide +kernel
theorem nq_Frame_repr : (defScope s_Frame_repr).names = ns_Frame_repr := rfl
theorem sc_Frame_repr : FnScope n_Frame_repr ["self"] (defScope s_Frame_repr) := ⟨rfl, rfl, rfl, by decide +kernel, rfl, by decide +kernel, by decide +kernel⟩
abbrev s_source : Stmt := top 11
abbrev n_source : List Str := ["_law_script", "_law_index", "_law_cell"]
def ns_source : List (Str × NameKind) := [("_law_script", .local), ("_law_index", .local), ("_law_cell", .local), ("len", .globalImplicit), ("max", .globalImplicit)]
abbrev v_source : List (Option Str) := [some "_law_script", some "_law_index", some "_law_cell"]
abbrev g_source : List Str := ["len", "max"]
theorem ck_source : okAll n_source ns_source v_source v_source g_source = true := by decide +kernel
theorem nq_source : (defScope s_source).names = ns_source := rfl
theorem sc_source : FnScope n_source ["_law_script", "_law_index"] (defScope s_source) := ⟨rfl, rfl, rfl, by decide +kernel, rfl, by decide +kernel, by decide +kernel⟩
abbrev s_draw : Stmt := top 12
abbrev n_draw : List Str := ["_law_source_here", "_law_bound", "_law_digit", "_law_mixed"]
def ns_draw : List (Str × NameKind) := [("_law_source_here", .local), ("_law_bound", .local), ("_law_digit", .local), ("_law_mixed", .local)]
abbrev v_draw : List (Option Str) := [some "_law_source_here", some "_law_bound", some "_law_digit", some "_law_mixed"]
abbrev g_draw : List Str := []
theorem ck_draw : okAll n_draw ns_draw v_draw v_draw g_draw = true := by decide +kernel
theorem nq_draw : (defScope s_draw).names = ns_draw := rfl
theorem sc_draw : FnScope n_draw ["_law_source_here", "_law_bound"] (defScope s_draw) := ⟨rfl, rfl, rfl, by decide +kernel, rfl, by decide +kernel, by decide +kernel⟩
abbrev s_shuffled : Stmt := top 13
abbrev n_shuffled : List Str := ["_law_source_here", "_law_things", "_law_left", "_law_step"]
def ns_shuffled : List (Str × NameKind) := [("_law_source_here", .cell), ("_law_things", .local), ("_law_left", .cell), ("list", .globalImplicit), ("range", .globalImplicit), ("len", .globalImplicit)]
abbrev v_shuffled : List (Option Str) := [some "_law_source_here", some "_law_things", some "_law_left", none]
abbrev g_shuffled : List Str := ["list", "range", "len"]
theorem ck_shuffled : okAll n_shuffled ns_shuffled v_shuffled v_shuffled g_shuffled = true := by decide +kernel
abbrev bo_shuffled_0 : List (Str × Nat) := [("_law_step", 3)]
abbrev bv_shuffled_0 : List (Option Str) := [some "_law_source_here", none, some "_law_left", some "_law_step"]
abbrev ba_shuffled_0 : List (Option Str) := [none, none, none, some "_law_step"]
abbrev bg_shuffled_0 : List Str := ["_law_draw", "len"]
theorem nq_shuffled : (defScope s_shuffled).names = ns_shuffled := rfl
theorem sc_shuffled : FnScope n_shuffled ["_law_source_here", "_law_things"] (defScope s_shuffled) := ⟨rfl, rfl, rfl, by decide +kernel, rfl, by decide +kernel, by decide +kernel⟩
abbrev s_frame : Stmt := top 14
abbrev n_frame : List Str := ["_law_source_here", "_law_most", "_law_ends"]
def ns_frame : List (Str × NameKind) := [("_law_source_here", .local), ("_law_most", .local), ("_law_ends", .local), ("_law_draw", .globalImplicit)]
abbrev v_frame : List (Option Str) := [some "_law_source_here", some "_law_most", some "_law_ends"]
abbrev g_frame : List Str := ["_law_draw"]
theorem ck_frame : okAll n_frame ns_frame v_frame v_frame g_frame = true := by decide +kernel
theorem nq_frame : (defScope s_frame).names = ns_frame := rfl
theorem sc_frame : FnScope n_frame ["_law_source_here", "_law_most"] (defScope s_frame) := ⟨rfl, rfl, rfl, by decide +kernel, rfl, by decide +kernel, by decide +kernel⟩
abbrev s_made : Stmt := top 15
abbrev n_made : List Str := ["_law_given"]
def ns_made : List (Str × NameKind) := [("_law_given", .local), ("Frame", .globalImplicit)]
abbrev v_made : List (Option Str) := [some "_law_given"]
abbrev g_made : List Str := ["Frame"]
theorem ck_made : okAll n_made ns_made v_made v_made g_made = true := by decide +kernel
theorem nq_made : (defScope s_made).names = ns_made := rfl
theorem sc_made : FnScope n_made ["_law_given"] (defScope s_made) := ⟨rfl, rfl, rfl, by decide +kernel, rfl, by decide +kernel, by decide +kernel⟩
abbrev s_signs : Stmt := top 16
abbrev n_signs : List Str := ["_law_given"]
def ns_signs : List (Str × NameKind) := [("_law_given", .local), ("int", .globalImplicit)]
abbrev v_signs : List (Option Str) := [some "_law_given"]
abbrev g_signs : List Str := ["int"]
theorem ck_signs : okAll n_signs ns_signs v_signs v_signs g_signs = true := by decide +kernel
theorem nq_signs : (defScope s_signs).names = ns_signs := rfl
theorem sc_signs : FnScope n_signs ["_law_given"] (defScope s_signs) := ⟨rfl, rfl, rfl, by decide +kernel, rfl, by decide +kernel, by decide +kernel⟩
abbrev s_slots_right : Stmt := top 17
abbrev n_slots_right : List Str := ["_law_frame_here", "_law_pieces", "_law_slot", "_law_due"]
def ns_slots_right : List (Str × NameKind) := [("_law_frame_here", .local), ("_law_pieces", .local), ("_law_slot", .local), ("_law_due", .local), ("repr", .globalImplicit)]
abbrev v_slots_right : List (Option Str) := [some "_law_frame_here", some "_law_pieces", some "_law_slot", some "_law_due"]
abbrev g_slots_right : List Str := ["repr"]
theorem ck_slots_right : okAll n_slots_right ns_slots_right v_slots_right v_slots_right g_slots_right = true := by decide +kernel
theorem nq_slots_right : (defScope s_slots_right).names = ns_slots_right := rfl
theorem sc_slots_right : FnScope n_slots_right ["_law_frame_here", "_law_pieces", "_law_slot"] (defScope s_slots_right) := ⟨rfl, rfl, rfl, by decide +kernel, rfl, by decide +kernel, by decide +kernel⟩
abbrev s_law : Stmt := top 18
abbrev n_law : List Str := ["_law_script", "_law_index", "_law_source_here", "_law_most", "_law_given", "_law_frame_here", "_law_text", "_law_slots", "_law_step", "_law_slot", "_law_swapped", "_law_more", "_law_other", "_law_again"]
def ns_law : List (Str × NameKind) := [("_law_script", .local), ("_law_index", .local), ("_law_source_here", .cell), ("_law_most", .local), ("_law_given", .cell), ("_law_frame_here", .cell), ("_law_text", .local), ("_law_slots", .local), ("_law_swapped", .local), ("_law_more", .local), ("_law_other", .local), ("_law_again", .local), ("range", .globalImplicit), ("max", .globalImplicit), ("min", .globalImplicit), ("len", .globalImplicit), ("_law_source", .globalImplicit), ("_law_frame", .globalImplicit), ("_law_made", .globalImplicit), ("str", .globalImplicit), ("repr", .globalImplicit), ("int", .globalImplicit), ("Frame", .globalImplicit)]
abbrev v_law : List (Option Str) := [some "_law_script", some "_law_index", some "_law_source_here", some "_law_most", some "_law_given", some "_law_frame_here", some "_law_text", some "_law_slots", none, none, some "_law_swapped", some "_law_more", some "_law_other", some "_law_again"]
abbrev g_law : List Str := ["range", "max", "min", "len", "_law_source", "_law_frame", "_law_made", "str", "repr", "int", "Frame"]
theorem ck_law : okAll n_law ns_law v_law v_law g_law = true := by decide +kernel
abbrev bo_law_0 : List (Str × Nat) := [("_law_step", 8)]
abbrev bv_law_0 : List (Option Str) := [none, none, some "_law_source_here", none, some "_law_given", none, none, none, some "_law_step", none, none, none, none, none]
abbrev ba_law_0 : List (Option Str) := [none, none, none, none, none, none, none, none, some "_law_step", none, none, none, none, none]
abbrev bg_law_0 : List Str := ["_law_draw"]
abbrev bo_law_1 : List (Str × Nat) := [("_law_slot", 9)]
abbrev bv_law_1 : List (Option Str) := [none, none, none, none, some "_law_given", some "_law_frame_here", none, none, none, some "_law_slot", none, none, none, none]
abbrev ba_law_1 : List (Option Str) := [none, none, none, none, none, none, none, none, none, some "_law_slot", none, none, none, none]
abbrev bg_law_1 : List Str := ["_law_slots_right"]
theorem nq_law : (defScope s_law).names = ns_law := rfl
theorem sc_law : FnScope n_law ["_law_script"] (defScope s_law) := ⟨rfl, rfl, rfl, by decide +kernel, rfl, by decide +kernel, by decide +kernel⟩
end U

namespace U
section
open PySem PySem.Spec L2
open PySem.W (findIn isFn mroIn Looks InstAt)
open PyProof.Rows hiding St
set_option hygiene false
local macro_rules | `(tactic| walk_at "k") => `(tactic| first
  | (with_reducible refine ck_e ?_; first
    | with_reducible refine w_SIGNS cx T (by repeat (first | with_reducible exact In.h | apply In.t)) ?_
    | with_reducible refine w_Frame cx T (by repeat (first | with_reducible exact In.h | apply In.t)) ?_
    | with_reducible refine w_var cx (by repeat (first | with_reducible exact SlotIs.h | apply SlotIs.t)) ?_
    | with_reducible refine w_int ?_
    | with_reducible refine w_bin ?_
    | with_reducible refine w_ix ?_
    | with_reducible refine w_cmp ?_
    | with_reducible refine w_str ?_
    | with_reducible refine w_tupK ?_
    | with_reducible refine w_lstK ?_
    | with_reducible refine w_len cx (by repeat (first | with_reducible exact In.h | apply In.t)) ?_
    | with_reducible refine w_max cx (by repeat (first | with_reducible exact In.h | apply In.t)) ?_
    | with_reducible refine w_min cx (by repeat (first | with_reducible exact In.h | apply In.t)) ?_
    | with_reducible refine w_abs cx (by repeat (first | with_reducible exact In.h | apply In.t)) ?_
    | with_reducible refine w_repr cx (by repeat (first | with_reducible exact In.h | apply In.t)) ?_
    | with_reducible refine w_isinstance cx (by repeat (first | with_reducible exact In.h | apply In.t)) ?_
    | with_reducible refine w_sorted cx (by repeat (first | with_reducible exact In.h | apply In.t)) ?_
    | with_reducible refine w_all cx (by repeat (first | with_reducible exact In.h | apply In.t)) ?_
    | with_reducible refine w_any cx (by repeat (first | with_reducible exact In.h | apply In.t)) ?_
    | with_reducible refine w_sum cx (by repeat (first | with_reducible exact In.h | apply In.t)) ?_
    | with_reducible refine w_intT cx (by repeat (first | with_reducible exact In.h | apply In.t)) ?_
    | with_reducible refine w_strT cx (by repeat (first | with_reducible exact In.h | apply In.t)) ?_
    | with_reducible refine w_tupleT cx (by repeat (first | with_reducible exact In.h | apply In.t)) ?_
    | with_reducible refine w_listT cx (by repeat (first | with_reducible exact In.h | apply In.t)) ?_
    | with_reducible refine w_dictT cx (by repeat (first | with_reducible exact In.h | apply In.t)) ?_
    | with_reducible refine w_boolT cx (by repeat (first | with_reducible exact In.h | apply In.t)) ?_
    | with_reducible refine w_attr ?_
    | with_reducible refine w_un ?_
    | with_reducible refine w_chain ?_
    | with_reducible refine w_and ?_
    | with_reducible refine w_or ?_
    | with_reducible refine w_bool1 ?_
    | with_reducible refine w_not ?_
    | with_reducible refine w_if ?_
    | with_reducible refine w_bl ?_
    | with_reducible refine w_non ?_
    | with_reducible refine w_joined ?_
    | with_reducible refine w_joined1 ?_
    | with_reducible refine w_fmt ?_)
  | (with_reducible refine ck_a ?_; first
    | with_reducible refine wa_cons ?_
    | with_reducible refine wa_nil ?_)
  | (with_reducible refine ck_s ?_; first
    | with_reducible refine s_fld cx T.cl T.n1 ?_
    | with_reducible refine s_fld cx T.cl T.n2 ?_
    | with_reducible refine s_fld cx T.cl T.n3 ?_
    | with_reducible refine s_fld cx T.cl T.n4 ?_
    | with_reducible refine s_fld cx T.cl T.n5 ?_
    | with_reducible refine s_set cx ?_
    | with_reducible refine s_if ?_
    | with_reducible refine s_ret ?_
    | with_reducible refine s_nil ?_
    | with_reducible refine s_expr ?_
    | with_reducible refine s_asg ?_
    | with_reducible refine s_pass ?_
    | with_reducible refine s_break ?_
    | with_reducible refine s_cont ?_
    | with_reducible refine s_retN ?_)
  | (with_reducible refine ck_o ?_; first
    | with_reducible refine o_ninSg cx T ?_
    | with_reducible refine o_addSn (by repeat (first | with_reducible exact l_emp | with_reducible exact l_en | with_reducible exact l_sp | with_reducible assumption | with_reducible exact l_frt (by first | with_reducible assumption | exact log_ok (by omega)) | with_reducible exact l_int (by first | with_reducible assumption | exact log_ok (by omega)) | with_reducible apply l_app | with_reducible exact Nat.le_refl _)) (by repeat (first | with_reducible exact l_emp | with_reducible exact l_en | with_reducible exact l_sp | with_reducible assumption | with_reducible exact l_frt (by first | with_reducible assumption | exact log_ok (by omega)) | with_reducible exact l_int (by first | with_reducible assumption | exact log_ok (by omega)) | with_reducible apply l_app | with_reducible exact Nat.le_refl _)) (by kernel_rfl) ?_
    | with_reducible refine o_add ?_
    | with_reducible refine o_sub ?_
    | with_reducible refine o_lt ?_
    | with_reducible refine o_le ?_
    | with_reducible refine o_gt ?_
    | with_reducible refine o_ge ?_
    | with_reducible refine o_eqI ?_
    | with_reducible refine o_neI ?_
    | with_reducible refine o_eqS ?_
    | with_reducible refine o_neS ?_
    | with_reducible refine o_neB ?_
    | with_reducible refine o_eqB ?_
    | with_reducible refine o_isN ?_
    | with_reducible refine o_notN ?_
    | with_reducible refine o_mod (by omega) ?_
    | with_reducible refine o_mulL (by omega) ?_
    | with_reducible refine o_mulR (by omega) ?_
    | with_reducible refine o_fdiv (by omega) ?_
    | with_reducible refine o_pow (by simp only [Int.reduceToNat, Int.reducePow]; first | done | rfl) (by omega) (by decide +kernel) ?_
    | with_reducible refine o_neL0 cx (by with_reducible assumption) (by repeat (first | with_reducible assumption | with_reducible exact Has.h | apply Has.t)) (by repeat (first | with_reducible assumption | with_reducible exact Has.h | apply Has.t)) ?_
    | with_reducible refine o_fdivB (by omega) ?_)
  | (with_reducible refine ck_c ?_; first
    | with_reducible refine c_strI (by first | with_reducible assumption | exact log_ok (by omega)) ?_
    | with_reducible refine c_reprI (by first | with_reducible assumption | exact log_ok (by omega)) ?_
    | with_reducible refine c_lenS (Nat.le_trans (by repeat (first | with_reducible exact l_emp | with_reducible exact l_en | with_reducible exact l_sp | with_reducible assumption | with_reducible exact l_frt (by first | with_reducible assumption | exact log_ok (by omega)) | with_reducible exact l_int (by first | with_reducible assumption | exact log_ok (by omega)) | with_reducible apply l_app | with_reducible exact Nat.le_refl _)) (Nat.le_of_ble_eq_true (by kernel_rfl))) ?_
    | with_reducible refine c_max cx ?_
    | with_reducible refine c_min cx ?_
    | with_reducible refine c_abs ?_
    | with_reducible refine c_intI ?_
    | with_reducible refine c_intB ?_
    | with_reducible refine c_strS ?_
    | with_reducible refine c_lenT (by with_reducible assumption) (by repeat (first | with_reducible assumption | with_reducible exact Ent.h | apply Ent.t)) ?_
    | with_reducible refine c_lenL (by with_reducible assumption) (by repeat (first | with_reducible assumption | with_reducible exact Has.h | apply Has.t)) ?_
    | with_reducible refine c_lenX (by with_reducible assumption) (by repeat (first | with_reducible assumption | with_reducible exact Ent.h | apply Ent.t)) ?_
    | with_reducible refine c_lenQ cx (by with_reducible assumption) (by repeat (first | with_reducible assumption | with_reducible exact Ent.h | apply Ent.t)) ?_)
  | (with_reducible refine ck_x ?_; first
    | with_reducible refine x_Sg cx T ?_
    | with_reducible refine x_tup (by with_reducible assumption) (by repeat (first | with_reducible assumption | with_reducible exact Ent.h | apply Ent.t)) (by first | with_reducible exact at0 | with_reducible exact at1 | with_reducible exact at2) ?_
    | with_reducible refine x_lst (by with_reducible assumption) (by repeat (first | with_reducible assumption | with_reducible exact Has.h | apply Has.t)) (by first | with_reducible exact at0 | with_reducible exact at1 | with_reducible exact at2) ?_
    | with_reducible refine x_lstX (by with_reducible assumption) (by repeat (first | with_reducible assumption | with_reducible exact Ent.h | apply Ent.t)) (by first | with_reducible exact at0 | with_reducible exact at1 | with_reducible exact at2) ?_)
  | (with_reducible refine ck_at ?_; first
    | with_reducible refine at_most cx T ?_
    | with_reducible refine at_pieces cx T (by with_reducible assumption) (by repeat (first | with_reducible assumption | with_reducible exact Ent.h | apply Ent.t)) ?_
    | with_reducible refine at_front cx T (by with_reducible assumption) (by repeat (first | with_reducible assumption | with_reducible exact Ent.h | apply Ent.t)) ?_
    | with_reducible refine at_back cx T (by with_reducible assumption) (by repeat (first | with_reducible assumption | with_reducible exact Ent.h | apply Ent.t)) ?_
    | with_reducible refine at_fs cx T (by with_reducible assumption) (by repeat (first | with_reducible assumption | with_reducible exact Ent.h | apply Ent.t)) ?_
    | with_reducible refine at_bs cx T (by with_reducible assumption) (by repeat (first | with_reducible assumption | with_reducible exact Ent.h | apply Ent.t)) ?_)
  | (with_reducible refine ck_t ?_; first
    | with_reducible refine t_cmp ?_
    | with_reducible refine t_chain ?_
    | with_reducible refine t_not ?_
    | with_reducible refine t_and ?_
    | with_reducible refine t_or ?_
    | with_reducible refine t_val ?_)
  | (with_reducible refine ck_w ?_; first
    | with_reducible refine ww_and ?_
    | with_reducible refine ww_or ?_
    | with_reducible refine ww_and1 ?_
    | with_reducible refine ww_or1 ?_)
  | (with_reducible refine ck_p ?_; first
    | with_reducible refine p_l0 (by with_reducible assumption) (by repeat (first | with_reducible assumption | with_reducible exact Put.h | apply Put.t)) ?_
    | with_reducible refine p_l1 (by with_reducible assumption) (by repeat (first | with_reducible assumption | with_reducible exact Put.h | apply Put.t)) ?_
    | with_reducible refine p_l2 (by with_reducible assumption) (by repeat (first | with_reducible assumption | with_reducible exact Put.h | apply Put.t)) ?_)
  | (with_reducible refine ck_f ?_; first
    | with_reducible refine f_str (Nat.le_trans (by repeat (first | with_reducible exact l_emp | with_reducible exact l_en | with_reducible exact l_sp | with_reducible assumption | with_reducible exact l_frt (by first | with_reducible assumption | exact log_ok (by omega)) | with_reducible exact l_int (by first | with_reducible assumption | exact log_ok (by omega)) | with_reducible apply l_app | with_reducible exact Nat.le_refl _)) (Nat.le_of_ble_eq_true (by kernel_rfl))) ?_
    | with_reducible refine f_int (by first | with_reducible assumption | exact log_ok (by omega)) ?_)
  | (with_reducible refine ck_j ?_; first
    | with_reducible refine wj_nil ?_
    | with_reducible refine wj_cons ?_)
  | (with_reducible refine ck_g ?_; first
    | with_reducible refine g_name cx (by repeat (first | with_reducible exact SetAt.h | apply SetAt.t)) ?_
    | with_reducible refine g_sub ?_)
  | with_reducible refine k_Frame (by with_reducible assumption) (by omega) (by omega) (fun p H kn => ?_)
  | with_reducible refine k_sj (by repeat (first | with_reducible exact l_emp | with_reducible exact l_en | with_reducible exact l_sp | with_reducible assumption | with_reducible exact l_frt (by first | with_reducible assumption | exact log_ok (by omega)) | with_reducible exact l_int (by first | with_reducible assumption | exact log_ok (by omega)) | with_reducible apply l_app | with_reducible exact Nat.le_refl _)) (by kernel_rfl) ?_
  | with_reducible refine k_set (by repeat (first | with_reducible exact SetAt.h | apply SetAt.t)) ?_
  | with_reducible refine k_bl ?_
  | with_reducible refine iteT ?_
  | with_reducible refine iteF ?_
  | with_reducible refine i_not ?_
  | with_reducible refine i_t (by with_reducible rfl) ?_
  | with_reducible refine i_t ⟨rfl, rfl, rfl⟩ ?_
  | with_reducible refine i_t (by with_reducible assumption) ?_
  | with_reducible refine i_f (by with_reducible assumption) ?_
  | with_reducible refine i_t (by omega) ?_
  | with_reducible refine i_f (by omega) ?_
  | with_reducible refine i_t (by simp only [List.length_cons, List.length_nil]; omega) ?_
  | with_reducible refine i_f (by simp only [List.length_cons, List.length_nil]; omega) ?_
  | with_reducible refine o_neg ?_
  | with_reducible refine k_sfld (by with_reducible assumption) (by repeat (first | with_reducible assumption | with_reducible exact Put.h | apply Put.t)) (by repeat (first | with_reducible exact FL.z | apply FL.s)) (by with_unfolding_all rfl) ?_
  | with_reducible refine gs_nil ?_
  | with_reducible refine gs_cons ?_
  | (with_reducible refine ⟨_, _, _, (by with_reducible assumption), (by with_unfolding_all exact Nat.le_of_ble_eq_true rfl), ?_⟩; intro p H kn)
  | (with_reducible intro H kn))
/-! the law's source of numbers -/
def IsSrc (c : Int) : HO → Prop := fun o => ∃ a s i : Int, o = .lst [.int a, .int s, .int i] ∧ 0 ≤ a ∧ 0 ≤ s ∧ s < 1427247692705959881058285969449495136382746624 ∧ 0 ≤ i ∧ i ≤ c
def spSource (K : PySem.W.Frag) : Sp := fun vs H Q _ => ∃ (a : Addr) (ns : List Int) (i : Int) (R : Hp → Prop) (N : List (Addr × (HO → Prop))) (L : List (Addr × Obj)), vs = [.ref a, .int i] ∧ 0 ≤ i ∧ i ≤ 100 ∧ ns.length ≤ 100 ∧
  (Ent R fun J => SqL K J a (ns.map V.int)) ∧ Kn R N L H ∧ ∀ (s : Addr) (H' : Hp), Kn R ((s, IsSrc 0) :: N) L H' → Q (.ref s) H'
section
variable {P : Program} {w : World} {K : PySem.W.Frag} {mg : Str → Option Value} {base : Heap}
theorem atI_lt {α : Type} {xs : List α} {i : Int} (h0 : 0 ≤ i) (h : i < xs.length) : ∃ v, atI xs i = some v := by
  unfold atI ixN
  rw [if_pos h0, if_pos h]
  have z : i.toNat < xs.length := by omega
  exact ⟨xs[i.toNat], by simp [z]⟩
theorem atI_map {i : Int} {ns : List Int} (h0 : 0 ≤ i) (h : i < (ns.map V.int).length) : ∃ z, atI (ns.map V.int) i = some (.int z) := by
  obtain ⟨v, e⟩ := atI_lt h0 h
  have e' := e
  unfold atI ixN at e'
  rw [if_pos h0, if_pos h] at e'
  have z : (ns.map V.int)[i.toNat]? = some v := e'
  rw [List.getElem?_map] at z
  cases q : ns[i.toNat]? with
  | none => rw [q] at z; cases z
  | some u => rw [q] at z; cases z; exact ⟨u, e⟩
theorem src_new {R : Hp → Prop} {N : List (Addr × (HO → Prop))} {L : List (Addr × Obj)} {H : Hp} {p : Addr} {a s : Int} (h0 : 0 ≤ a) (h1 : 0 ≤ s) (h2 : s < 1427247692705959881058285969449495136382746624) (kn : Kn R ((p, Is (.lst [.int a, .int s, .int 0])) :: N) L H) : Kn R ((p, IsSrc 0) :: N) L H :=
  kn.imp .h fun o e => ⟨a, s, 0, e, h0, h1, h2, Int.le_refl _, Int.le_refl _⟩
theorem ok_source {f : Addr} {fd : FuncData} (F : Fun K "_law_source" "_law_source" s_source f fd) (bl : ∀ x ∈ blts, mg x = none) : Fk P w K mg base 1 f fd ["_law_script", "_law_index"] (spSource K) := by
  refine fn_okW F sc_source nq_source ck_source bl (fun vs H Q E h => ?_) (fun X H vs Q E cx h => ?_)
  · obtain ⟨a, ns, i, R, N, L, rfl, _⟩ := h
    rfl
  · obtain ⟨a, ns, i, R, N, L, rfl, h0, h1, h2, en, kn, k⟩ := h
    change Wss X _ _ [_, _, _] _
    refine s_set cx ?_
    repeat walk_at "k"
    refine i_2 (fun hi => ?_) (fun hi => ?_)
    · repeat walk_at "k"
      obtain ⟨z, hz⟩ := atI_map h0 hi
      refine x_lstQ cx kn en hz ?_
      repeat walk_at "k"
      refine k _ _ (src_new ?_ ?_ ?_ kn)
      · split <;> omega
      · omega
      · omega
    · repeat walk_at "k"
      refine k _ _ (src_new ?_ ?_ ?_ kn)
      · split <;> omega
      · omega
      · omega
/-- a number below b; the source goes on -/
def spDraw : Sp := fun vs H Q _ => ∃ (s : Addr) (b c : Int) (R : Hp → Prop) (N N' : List (Addr × (HO → Prop))) (L : List (Addr × Obj)), vs = [.ref s, .int b] ∧ 0 < b ∧ b < 1361129467683753853853498429727072845824 ∧ 0 ≤ c ∧ c ≤ 1152921504606846976 ∧ Put s (IsSrc c) (IsSrc (c + 1)) N N' ∧ Kn R N L H ∧
  ∀ (v : Int) (H' : Hp), 0 ≤ v → v < b → Kn R N' L H' → Q (.int v) H'
theorem o_cube {X : Cx} {H : Hp} {Q : VK} {a : Int} (h0 : 0 ≤ a) (h1 : a < 1606938044258990275541962092341162602522202993782792835301376) (h : ∀ z : Int, Q (.int z) H) : Wop X (binaryOp .Pow) (.int a) (.int 3) H Q := by
  refine o_pow rfl (by decide) ?_ (h _)
  have e : (a.natAbs : Int) = a := by omega
  have z : a.natAbs < 2 ^ 200 := by omega
  have y := PyProof.Rows.intBits_le z
  omega
theorem ok_draw {f : Addr} {fd : FuncData} (F : Fun K "_law_draw" "_law_draw" s_draw f fd) (bl : ∀ x ∈ blts, mg x = none) : Fk P w K mg base 1 f fd ["_law_source_here", "_law_bound"] spDraw := by
  refine fn_okW F sc_draw nq_draw ck_draw bl (fun vs H Q E h => ?_) (fun X H vs Q E cx h => ?_)
  · obtain ⟨a, ns, i, R, N, N', L, rfl, _⟩ := h
    rfl
  · obtain ⟨p, b, c, R, N, N', L, rfl, hb, hb', hc0, hc, hp, kn, k⟩ := h
    obtain ⟨M, f1, f2⟩ := hp.focus
    replace kn := f1 _ _ _ kn
    obtain ⟨o, ⟨a, s, i, rfl, a0, s0, s1, i0, i1⟩, kn⟩ := kn.open1
    change Wss X _ _ [_, _, _, _] _
    refine s_if ?_
    repeat walk_at "k"
    refine i_2 (fun hi => ?_) (fun hi => ?_)
    · repeat walk_at "k"
      refine k _ _ (Int.emod_nonneg _ (by omega)) (Int.emod_lt_of_pos _ hb) (f2 _ _ _ (kn.imp .h fun o e => ⟨_, _, _, e, ?_, s0, s1, i0, by omega⟩))
      exact Int.ediv_nonneg a0 (by omega)
    · repeat walk_at "k"
      refine o_cube (by omega) (by omega) fun z => ?_
      repeat walk_at "k"
      refine o_cube (by omega) (by omega) fun z => ?_
      repeat walk_at "k"
      exact k _ _ (Int.emod_nonneg _ (by omega)) (Int.emod_lt_of_pos _ hb) (f2 _ _ _ (kn.imp .h fun o e => ⟨_, _, _, e, a0, s0, s1, by omega, by omega⟩))
end
/-! frames -/
def en (b : Bool) : Str := if b = true then "free" else "fixed"
def sgn (b : Bool) : Int := if b = true then 1 else -1
theorem en_inj {a b : Bool} : en a = en b ↔ a = b := by
  have h : ¬ (("free" : Str) = "fixed") := by decide +kernel
  have h' : ¬ (("fixed" : Str) = "free") := by decide +kernel
  cases a <;> cases b <;> simp [en, h, h']
theorem en_is (b : Bool) : en b = "fixed" ∨ en b = "free" := by cases b <;> simp [en]
theorem ends_at {v : Int} (h0 : 0 ≤ v) (h1 : v < 2) : atI [V.str "fixed", V.str "free"] v = some (.str (en (decide (v = 1)))) := by
  have h : v = 0 ∨ v = 1 := by omega
  rcases h with rfl | rfl
  · exact at0
  · exact at1
def frFs (n : Int) (f b : Bool) : List (Str × V) := putF "back_sign" (.int (sgn b)) (putF "front_sign" (.int (sgn f)) (putF "back" (.str (en b)) (putF "front" (.str (en f)) (putF "pieces" (.int n) []))))
theorem ne_pf : ¬ (("pieces" : Str) = "front") := by decide +kernel
theorem fr_pieces {n : Int} {f b : Bool} : (frFs n f b).lookup ("pieces" : Str) = some (.int n) := by
  have a1 : ¬ (("pieces" : Str) = "back_sign") := by decide +kernel
  have a2 : ¬ (("pieces" : Str) = "front_sign") := by decide +kernel
  have a3 : ¬ (("pieces" : Str) = "back") := by decide +kernel
  have a4 : ¬ (("pieces" : Str) = "front") := by decide +kernel
  simp only [frFs, lookup_putF, if_neg a1, if_neg a2, if_neg a3, if_neg a4, if_true]
theorem fr_front {n : Int} {f b : Bool} : (frFs n f b).lookup ("front" : Str) = some (.str (en f)) := by
  have a1 : ¬ (("front" : Str) = "back_sign") := by decide +kernel
  have a2 : ¬ (("front" : Str) = "front_sign") := by decide +kernel
  have a3 : ¬ (("front" : Str) = "back") := by decide +kernel
  simp only [frFs, lookup_putF, if_neg a1, if_neg a2, if_neg a3, if_true]
theorem fr_back {n : Int} {f b : Bool} : (frFs n f b).lookup ("back" : Str) = some (.str (en b)) := by
  have a1 : ¬ (("back" : Str) = "back_sign") := by decide +kernel
  have a2 : ¬ (("back" : Str) = "front_sign") := by decide +kernel
  simp only [frFs, lookup_putF, if_neg a1, if_neg a2, if_true]
theorem fr_fs {n : Int} {f b : Bool} : (frFs n f b).lookup ("front_sign" : Str) = some (.int (sgn f)) := by
  have a1 : ¬ (("front_sign" : Str) = "back_sign") := by decide +kernel
  simp only [frFs, lookup_putF, if_neg a1, if_true]
theorem fr_bs {n : Int} {f b : Bool} : (frFs n f b).lookup ("back_sign" : Str) = some (.int (sgn b)) := by
  simp only [frFs, lookup_putF, if_true]
theorem fr_no {n : Int} {f b : Bool} {m : Str} (h : (m == ("back_sign" : Str) || m == ("front_sign" : Str) || m == ("back" : Str) || m == ("front" : Str) || m == ("pieces" : Str)) = false) : (frFs n f b).lookup m = none := by
  simp only [Bool.or_eq_false_iff, beq_eq_false_iff_ne] at h
  obtain ⟨⟨⟨⟨a1, a2⟩, a3⟩, a4⟩, a5⟩ := h
  simp only [frFs, lookup_putF, if_neg a1, if_neg a2, if_neg a3, if_neg a4, if_neg a5]
  rfl
/-- the written dict of signs at d -/
structure Sg (K : PySem.W.Frag) (w : World) (mg : Str → Option Value) (d : Addr) : Prop where
  mg_ : mg "SIGNS" = some (.ref d)
  kd : ∃ es n, KDict K w d es n
  fx : ∃ t, PySem.W.nsIn K d "fixed" = some (some (.int (-1) t))
  fr : ∃ t, PySem.W.nsIn K d "free" = some (some (.int 1 t))
  no : ∀ z : Str, ¬ (z = "fixed" ∨ z = "free") → PySem.W.nsIn K d z = some none
structure FrT (K : PySem.W.Frag) (w : World) (mg : Str → Option Value) (C d : Addr) : Prop where
  sg : Sg K w mg d
  mgC : mg "Frame" = some (.ref C)
  cl : Cls K C
  n1 : NoAttr K C "pieces"
  n2 : NoAttr K C "front"
  n3 : NoAttr K C "back"
  n4 : NoAttr K C "front_sign"
  n5 : NoAttr K C "back_sign"
  mp : ∃ mc t, ClX.CRead K C mc ∧ ClX.CVal K C mc "MOST_PIECES" (.int 1000000000000000000) (.int 1000000000000000000 t)
def IsFr (C a : Addr) (n : Int) (f b : Bool) : Hp → Prop := fun J => ∃ dx, J a = some (.ins C dx (frFs n f b))
section
variable {P : Program} {w : World} {K : PySem.W.Frag} {mg : Str → Option Value} {base : Heap} {C d : Addr}
section
variable {k : Nat} {VL AL : List (Option Str)} {GL : List Str} {E : XK} {X : Cx} {σ : St} {H : Hp} {Q : VK} {pos : Pos} {R : Hp → Prop} {N : List (Addr × (HO → Prop))} {L : List (Addr × Obj)} {a : Addr} {n : Int} {f b : Bool}
theorem w_SIGNS (cx : CxI P w K mg base k VL AL GL E X) (T : FrT K w mg C d) (hg : In ("SIGNS" : Str) GL) (h : Q (.ref d) H) : We X (.Name "SIGNS" pos) σ H Q := w_glob (v := .ref d) cx hg T.sg.mg_ rfl h
theorem w_Frame (cx : CxI P w K mg base k VL AL GL E X) (T : FrT K w mg C d) (hg : In ("Frame" : Str) GL) (h : Q (.ref C) H) : We X (.Name "Frame" pos) σ H Q := w_glob (v := .ref C) cx hg T.mgC rfl h
theorem at_most (cx : CxI P w K mg base k VL AL GL E X) (T : FrT K w mg C d) (h : Q (.int 1000000000000000000) H) : Wat X (.ref C) "MOST_PIECES" H Q := by
  obtain ⟨mc, t, r, c⟩ := T.mp
  exact at_cval cx r c h
theorem o_ninSg (cx : CxI P w K mg base k VL AL GL E X) (T : FrT K w mg C d) {z : Str} (h : Q (.bl (!decide (z = "fixed" ∨ z = "free"))) H) : Wop X (compareOp .NotIn) (.str z) (.ref d) H Q := by
  obtain ⟨es, m, D⟩ := T.sg.kd
  have e3 := cx.eK
  have e2 := cx.ew
  subst e3; subst e2
  by_cases hz : z = "fixed" ∨ z = "free"
  · rw [decide_eq_true hz] at h
    obtain ⟨t, e⟩ := T.sg.fx
    obtain ⟨t', e'⟩ := T.sg.fr
    rcases hz with rfl | rfl
    · exact ofOp (op_notIn_kd D) ⟨_, _, rfl, rfl, e, h⟩
    · exact ofOp (op_notIn_kd D) ⟨_, _, rfl, rfl, e', h⟩
  · rw [decide_eq_false hz] at h
    exact ofOp (op_notIn_kd D) ⟨_, _, rfl, rfl, T.sg.no z hz, h⟩
theorem x_Sg (cx : CxI P w K mg base k VL AL GL E X) (T : FrT K w mg C d) (h : Q (.int (sgn f)) H) : Wix X (.ref d) (.str (en f)) H Q := by
  obtain ⟨es, m, D⟩ := T.sg.kd
  have e3 := cx.eK
  have e2 := cx.ew
  subst e3; subst e2
  obtain ⟨t, e⟩ := T.sg.fx
  obtain ⟨t', e'⟩ := T.sg.fr
  cases f with
  | true => exact ofIx ix_kdict ⟨d, "free", .int 1, rfl, rfl, ⟨es, m, _, D.at_, D.lit, e', ⟨_, rfl⟩⟩, h⟩
  | false => exact ofIx ix_kdict ⟨d, "fixed", .int (-1), rfl, rfl, ⟨es, m, _, D.at_, D.lit, e, ⟨_, rfl⟩⟩, h⟩
theorem at_pieces (cx : CxI P w K mg base k VL AL GL E X) (T : FrT K w mg C d) (kn : Kn R N L H) (e : Ent R (IsFr C a n f b)) (h : Q (.int n) H) : Wat X (.ref a) "pieces" H Q := by
  obtain ⟨dx, e⟩ := kn.get e
  exact at_fld cx T.cl T.n1 e fr_pieces h
theorem at_front (cx : CxI P w K mg base k VL AL GL E X) (T : FrT K w mg C d) (kn : Kn R N L H) (e : Ent R (IsFr C a n f b)) (h : Q (.str (en f)) H) : Wat X (.ref a) "front" H Q := by
  obtain ⟨dx, e⟩ := kn.get e
  exact at_fld cx T.cl T.n2 e fr_front h
theorem at_back (cx : CxI P w K mg base k VL AL GL E X) (T : FrT K w mg C d) (kn : Kn R N L H) (e : Ent R (IsFr C a n f b)) (h : Q (.str (en b)) H) : Wat X (.ref a) "back" H Q := by
  obtain ⟨dx, e⟩ := kn.get e
  exact at_fld cx T.cl T.n3 e fr_back h
theorem at_fs (cx : CxI P w K mg base k VL AL GL E X) (T : FrT K w mg C d) (kn : Kn R N L H) (e : Ent R (IsFr C a n f b)) (h : Q (.int (sgn f)) H) : Wat X (.ref a) "front_sign" H Q := by
  obtain ⟨dx, e⟩ := kn.get e
  exact at_fld cx T.cl T.n4 e fr_fs h
theorem at_bs (cx : CxI P w K mg base k VL AL GL E X) (T : FrT K w mg C d) (kn : Kn R N L H) (e : Ent R (IsFr C a n f b)) (h : Q (.int (sgn b)) H) : Wat X (.ref a) "back_sign" H Q := by
  obtain ⟨dx, e⟩ := kn.get e
  exact at_fld cx T.cl T.n5 e fr_bs h
end
/-! ### Frame.__init__ with right arguments -/
def spFrInit (C : Addr) : Sp := fun vs H Q _ => ∃ (x dx : Addr) (n : Int) (f b : Bool) (R : Hp → Prop) (N : List (Addr × (HO → Prop))) (L : List (Addr × Obj)), vs = [.ref x, .int n, .str (en f), .str (en b)] ∧ 1 ≤ n ∧ n ≤ 1000000000000000000 ∧
  Kn R ((x, Is (.ins C dx [])) :: N) L H ∧ ∀ H', Kn (Cj (IsFr C x n f b) R) N L H' → Q .non H'
theorem ok_Frame_init {fa : Addr} {fd : FuncData} (F : Fun K "__init__" "Frame.__init__" s_Frame_init fa fd) (bl : ∀ x ∈ blts, mg x = none) (T : FrT K w mg C d) : Fk P w K mg base 1 fa fd ["self", "pieces", "front", "back"] (spFrInit C) := by
  refine fn_okW F sc_Frame_init nq_Frame_init ck_Frame_init bl (fun vs H Q E h => ?_) (fun X H vs Q E cx h => ?_)
  · obtain ⟨x, dx, n, f, b, R, N, L, rfl, _⟩ := h
    rfl
  · obtain ⟨x, dx, n, f, b, R, N, L, rfl, h0, h1, kn, k⟩ := h
    have hf := en_is f
    have hb := en_is b
    change Wss X _ _ [_, _, _, _] _
    refine s_if ?_
    repeat walk_at "k"
    refine k _ ((kn.giveX .h (fun o u v e z => by cases e; cases z) (fun o e z => by cases e; rcases z with ⟨_, z⟩ | ⟨_, z⟩ <;> cases z)).weak fun J z => ⟨?_, z.2⟩)
    obtain ⟨⟨o, e, z⟩, _⟩ := z
    cases e
    exact ⟨dx, z⟩
/-- a frame is made -/
theorem k_Frame {E : XK} {H : Hp} {Q : VK} {R : Hp → Prop} {N : List (Addr × (HO → Prop))} {L : List (Addr × Obj)} {n : Int} {f b : Bool} (kn : Kn R N L H) (h0 : 1 ≤ n) (h1 : n ≤ 1000000000000000000)
    (h : ∀ p H', Kn (Cj (IsFr C p n f b) R) N L H' → Q (.ref p) H') : ∀ y dx, H y = none → H dx = none → dx ≠ y → spFrInit C [.ref y, .int n, .str (en f), .str (en b)] (upd (upd H dx (.own y)) y (.ins C dx [])) (MkQ Q y) E :=
  fun y dx hy hd ne => ⟨y, dx, n, f, b, R, N, L, rfl, h0, h1, (kn.junk hd).new (by rw [upd_ne ne.symm]; exact hy) rfl, fun H' kn' => ⟨rfl, h y H' kn'⟩⟩
/-! ### properties and methods of frames -/
def spFr0 (C : Addr) (g : Int → Bool → Bool → V) : Sp := fun vs H Q _ => ∃ (a : Addr) (n : Int) (f b : Bool) (R : Hp → Prop) (N : List (Addr × (HO → Prop))) (L : List (Addr × Obj)), vs = [.ref a] ∧ Ent R (IsFr C a n f b) ∧ Kn R N L H ∧ ∀ H', Kn R N L H' → Q (g n f b) H'
theorem ok_Frame_slots {fa : Addr} {fd : FuncData} (F : Fun K "slots" "Frame.slots" s_Frame_slots fa fd) (bl : ∀ x ∈ blts, mg x = none) (T : FrT K w mg C d) : Fk P w K mg base 1 fa fd ["self"] (spFr0 C fun n _ _ => .int (2 * n)) := by
  refine fn_okW F sc_Frame_slots nq_Frame_slots ck_Frame_slots bl (fun vs H Q E h => ?_) (fun X H vs Q E cx h => ?_)
  · obtain ⟨a, n, f, b, R, N, L, rfl, _⟩ := h
    rfl
  · obtain ⟨a, n, f, b, R, N, L, rfl, e, kn, k⟩ := h
    change Wss X _ _ [_] _
    refine s_ret ?_
    repeat walk_at "k"
    exact k _ kn
theorem ok_Frame_turn {fa : Addr} {fd : FuncData} (F : Fun K "turn" "Frame.turn" s_Frame_turn fa fd) (bl : ∀ x ∈ blts, mg x = none) (T : FrT K w mg C d) : Fk P w K mg base 1 fa fd ["self"] (spFr0 C fun _ f b => .int (sgn f * sgn b)) := by
  refine fn_okW F sc_Frame_turn nq_Frame_turn ck_Frame_turn bl (fun vs H Q E h => ?_) (fun X H vs Q E cx h => ?_)
  · obtain ⟨a, n, f, b, R, N, L, rfl, _⟩ := h
    rfl
  · obtain ⟨a, n, f, b, R, N, L, rfl, e, kn, k⟩ := h
    change Wss X _ _ [_] _
    refine s_ret ?_
    repeat walk_at "k"
    refine o_mulL (by unfold sgn; split <;> omega) ?_
    exact k _ kn
def dS (fwd : Bool) : Str := if fwd = true then ">" else "<"
def spSlotOf (C : Addr) : Sp := fun vs H Q _ => ∃ (a : Addr) (n p : Int) (f b fwd : Bool) (R : Hp → Prop) (N : List (Addr × (HO → Prop))) (L : List (Addr × Obj)), vs = [.ref a, .int p, .str (dS fwd)] ∧ Ent R (IsFr C a n f b) ∧ Kn R N L H ∧
  ∀ H', Kn R N L H' → Q (.int (if fwd = true then p else 2 * n - 1 - p)) H'
theorem gt_ne : ¬ (("<" : Str) = ">") := by decide +kernel
theorem ok_Frame_slot_of {fa : Addr} {fd : FuncData} (F : Fun K "slot_of" "Frame.slot_of" s_Frame_slot_of fa fd) (bl : ∀ x ∈ blts, mg x = none) (T : FrT K w mg C d) : Fk P w K mg base 1 fa fd ["self", "piece", "direction"] (spSlotOf C) := by
  refine fn_okW F sc_Frame_slot_of nq_Frame_slot_of ck_Frame_slot_of bl (fun vs H Q E h => ?_) (fun X H vs Q E cx h => ?_)
  · obtain ⟨a, n, p, f, b, fwd, R, N, L, rfl, _⟩ := h
    rfl
  · obtain ⟨a, n, p, f, b, fwd, R, N, L, rfl, e, kn, k⟩ := h
    change Wss X _ _ [_, _, _] _
    have g := gt_ne
    cases fwd with
    | true =>
      rw [if_pos rfl] at k
      change Wss X _ _ [_, _, some (.str ">")] _
      refine s_ret ?_
      repeat walk_at "k"
      repeat walk_at "k"
      exact k _ kn
    | false =>
      rw [if_neg Bool.false_ne_true] at k
      change Wss X _ _ [_, _, some (.str "<")] _
      refine s_ret ?_
      repeat walk_at "k"
      exact k _ kn
def dirOf (n s : Int) : Str := if s < n then ">" else "<"
def pieceOf (n s : Int) : Int := if s < n then s else 2 * n - 1 - s
def spPulseAt (C : Addr) : Sp := fun vs H Q _ => ∃ (a : Addr) (n s : Int) (f b : Bool) (R : Hp → Prop) (N : List (Addr × (HO → Prop))) (L : List (Addr × Obj)), vs = [.ref a, .int s] ∧ Ent R (IsFr C a n f b) ∧ Kn R N L H ∧
  ∀ p H', Kn (Cj (Ex p (.tup [.int (pieceOf n s), .str (dirOf n s)])) R) N L H' → Q (.ref p) H'
theorem ok_Frame_pulse_at {fa : Addr} {fd : FuncData} (F : Fun K "pulse_at" "Frame.pulse_at" s_Frame_pulse_at fa fd) (bl : ∀ x ∈ blts, mg x = none) (T : FrT K w mg C d) : Fk P w K mg base 1 fa fd ["self", "slot"] (spPulseAt C) := by
  refine fn_okW F sc_Frame_pulse_at nq_Frame_pulse_at ck_Frame_pulse_at bl (fun vs H Q E h => ?_) (fun X H vs Q E cx h => ?_)
  · obtain ⟨a, n, s, f, b, R, N, L, rfl, _⟩ := h
    rfl
  · obtain ⟨a, n, s, f, b, R, N, L, rfl, e, kn, k⟩ := h
    change Wss X _ _ [_, _] _
    refine s_if ?_
    repeat walk_at "k"
    unfold dirOf pieceOf at k
    refine i_2 (fun hi => ?_) (fun hi => ?_)
    · rw [if_pos hi, if_pos hi] at k
      repeat walk_at "k"
      exact k _ _ kn
    · rw [if_neg hi, if_neg hi] at k
      repeat walk_at "k"
      exact k _ _ kn
end

end
end U

namespace U
section
open PySem PySem.Spec L2
open PySem.W (findIn isFn mroIn Looks InstAt)
open PyProof.Rows hiding St
set_option hygiene false
local macro_rules | `(tactic| walk_at "k") => `(tactic| first
  | (with_reducible refine ck_e ?_; first
    | with_reducible refine w_SIGNS cx T (by repeat (first | with_reducible exact In.h | apply In.t)) ?_
    | with_reducible refine w_Frame cx T (by repeat (first | with_reducible exact In.h | apply In.t)) ?_
    | with_reducible refine w_var cx (by repeat (first | with_reducible exact SlotIs.h | apply SlotIs.t)) ?_
    | with_reducible refine w_int ?_
    | with_reducible refine w_bin ?_
    | with_reducible refine w_ix ?_
    | with_reducible refine w_cmp ?_
    | with_reducible refine w_str ?_
    | with_reducible refine w_tupK ?_
    | with_reducible refine w_lstK ?_
    | with_reducible refine w_len cx (by repeat (first | with_reducible exact In.h | apply In.t)) ?_
    | with_reducible refine w_max cx (by repeat (first | with_reducible exact In.h | apply In.t)) ?_
    | with_reducible refine w_min cx (by repeat (first | with_reducible exact In.h | apply In.t)) ?_
    | with_reducible refine w_abs cx (by repeat (first | with_reducible exact In.h | apply In.t)) ?_
    | with_reducible refine w_repr cx (by repeat (first | with_reducible exact In.h | apply In.t)) ?_
    | with_reducible refine w_isinstance cx (by repeat (first | with_reducible exact In.h | apply In.t)) ?_
    | with_reducible refine w_sorted cx (by repeat (first | with_reducible exact In.h | apply In.t)) ?_
    | with_reducible refine w_all cx (by repeat (first | with_reducible exact In.h | apply In.t)) ?_
    | with_reducible refine w_any cx (by repeat (first | with_reducible exact In.h | apply In.t)) ?_
    | with_reducible refine w_sum cx (by repeat (first | with_reducible exact In.h | apply In.t)) ?_
    | with_reducible refine w_intT cx (by repeat (first | with_reducible exact In.h | apply In.t)) ?_
    | with_reducible refine w_strT cx (by repeat (first | with_reducible exact In.h | apply In.t)) ?_
    | with_reducible refine w_tupleT cx (by repeat (first | with_reducible exact In.h | apply In.t)) ?_
    | with_reducible refine w_listT cx (by repeat (first | with_reducible exact In.h | apply In.t)) ?_
    | with_reducible refine w_dictT cx (by repeat (first | with_reducible exact In.h | apply In.t)) ?_
    | with_reducible refine w_boolT cx (by repeat (first | with_reducible exact In.h | apply In.t)) ?_
    | with_reducible refine w_attr ?_
    | with_reducible refine w_un ?_
    | with_reducible refine w_chain ?_
    | with_reducible refine w_and ?_
    | with_reducible refine w_or ?_
    | with_reducible refine w_bool1 ?_
    | with_reducible refine w_not ?_
    | with_reducible refine w_if ?_
    | with_reducible refine w_bl ?_
    | with_reducible refine w_non ?_
    | with_reducible refine w_joined ?_
    | with_reducible refine w_joined1 ?_
    | with_reducible refine w_fmt ?_)
  | (with_reducible refine ck_a ?_; first
    | with_reducible refine wa_cons ?_
    | with_reducible refine wa_nil ?_)
  | (with_reducible refine ck_s ?_; first
    | with_reducible refine s_fld cx T.cl T.n1 ?_
    | with_reducible refine s_fld cx T.cl T.n2 ?_
    | with_reducible refine s_fld cx T.cl T.n3 ?_
    | with_reducible refine s_fld cx T.cl T.n4 ?_
    | with_reducible refine s_fld cx T.cl T.n5 ?_
    | with_reducible refine s_set cx ?_
    | with_reducible refine s_if ?_
    | with_reducible refine s_ret ?_
    | with_reducible refine s_nil ?_
    | with_reducible refine s_expr ?_
    | with_reducible refine s_asg ?_
    | with_reducible refine s_pass ?_
    | with_reducible refine s_break ?_
    | with_reducible refine s_cont ?_
    | with_reducible refine s_retN ?_)
  | (with_reducible refine ck_o ?_; first
    | with_reducible refine o_ninSg cx T ?_
    | with_reducible refine o_addSn (by repeat (first | with_reducible exact l_emp | with_reducible exact l_en | with_reducible exact l_sp | with_reducible assumption | with_reducible exact l_frt (by first | with_reducible assumption | exact log_ok (by omega)) | with_reducible exact l_int (by first | with_reducible assumption | exact log_ok (by omega)) | with_reducible apply l_app | with_reducible exact Nat.le_refl _)) (by repeat (first | with_reducible exact l_emp | with_reducible exact l_en | with_reducible exact l_sp | with_reducible assumption | with_reducible exact l_frt (by first | with_reducible assumption | exact log_ok (by omega)) | with_reducible exact l_int (by first | with_reducible assumption | exact log_ok (by omega)) | with_reducible apply l_app | with_reducible exact Nat.le_refl _)) (by kernel_rfl) ?_
    | with_reducible refine o_add ?_
    | with_reducible refine o_sub ?_
    | with_reducible refine o_lt ?_
    | with_reducible refine o_le ?_
    | with_reducible refine o_gt ?_
    | with_reducible refine o_ge ?_
    | with_reducible refine o_eqI ?_
    | with_reducible refine o_neI ?_
    | with_reducible refine o_eqS ?_
    | with_reducible refine o_neS ?_
    | with_reducible refine o_neB ?_
    | with_reducible refine o_eqB ?_
    | with_reducible refine o_isN ?_
    | with_reducible refine o_notN ?_
    | with_reducible refine o_mod (by omega) ?_
    | with_reducible refine o_mulL (by omega) ?_
    | with_reducible refine o_mulR (by omega) ?_
    | with_reducible refine o_fdiv (by omega) ?_
    | with_reducible refine o_pow (by simp only [Int.reduceToNat, Int.reducePow]; first | done | rfl) (by omega) (by decide +kernel) ?_
    | with_reducible refine o_neL0 cx (by with_reducible assumption) (by repeat (first | with_reducible assumption | with_reducible exact Has.h | apply Has.t)) (by repeat (first | with_reducible assumption | with_reducible exact Has.h | apply Has.t)) ?_
    | with_reducible refine o_fdivB (by omega) ?_)
  | (with_reducible refine ck_c ?_; first
    | with_reducible refine c_isFr cx T q (by with_reducible assumption) (by repeat (first | with_reducible assumption | with_reducible exact Ent.h | apply Ent.t)) ?_
    | with_reducible refine c_isTu cx q (by with_reducible assumption) (by repeat (first | with_reducible assumption | with_reducible exact Ent.h | apply Ent.t)) ?_
    | with_reducible refine c_isSt cx q ?_
    | with_reducible refine c_strI (by first | with_reducible assumption | exact log_ok (by omega)) ?_
    | with_reducible refine c_reprI (by first | with_reducible assumption | exact log_ok (by omega)) ?_
    | with_reducible refine c_lenS (Nat.le_trans (by repeat (first | with_reducible exact l_emp | with_reducible exact l_en | with_reducible exact l_sp | with_reducible assumption | with_reducible exact l_frt (by first | with_reducible assumption | exact log_ok (by omega)) | with_reducible exact l_int (by first | with_reducible assumption | exact log_ok (by omega)) | with_reducible apply l_app | with_reducible exact Nat.le_refl _)) (Nat.le_of_ble_eq_true (by kernel_rfl))) ?_
    | with_reducible refine c_max cx ?_
    | with_reducible refine c_min cx ?_
    | with_reducible refine c_abs ?_
    | with_reducible refine c_intI ?_
    | with_reducible refine c_intB ?_
    | with_reducible refine c_strS ?_
    | with_reducible refine c_lenT (by with_reducible assumption) (by repeat (first | with_reducible assumption | with_reducible exact Ent.h | apply Ent.t)) ?_
    | with_reducible refine c_lenL (by with_reducible assumption) (by repeat (first | with_reducible assumption | with_reducible exact Has.h | apply Has.t)) ?_
    | with_reducible refine c_lenX (by with_reducible assumption) (by repeat (first | with_reducible assumption | with_reducible exact Ent.h | apply Ent.t)) ?_
    | with_reducible refine c_lenQ cx (by with_reducible assumption) (by repeat (first | with_reducible assumption | with_reducible exact Ent.h | apply Ent.t)) ?_)
  | (with_reducible refine ck_x ?_; first
    | with_reducible refine x_Sg cx T ?_
    | with_reducible refine x_tup (by with_reducible assumption) (by repeat (first | with_reducible assumption | with_reducible exact Ent.h | apply Ent.t)) (by first | with_reducible exact at0 | with_reducible exact at1 | with_reducible exact at2) ?_
    | with_reducible refine x_lst (by with_reducible assumption) (by repeat (first | with_reducible assumption | with_reducible exact Has.h | apply Has.t)) (by first | with_reducible exact at0 | with_reducible exact at1 | with_reducible exact at2) ?_
    | with_reducible refine x_lstX (by with_reducible assumption) (by repeat (first | with_reducible assumption | with_reducible exact Ent.h | apply Ent.t)) (by first | with_reducible exact at0 | with_reducible exact at1 | with_reducible exact at2) ?_)
  | (with_reducible refine ck_at ?_; first
    | with_reducible refine at_most cx T ?_
    | with_reducible refine at_pieces cx T (by with_reducible assumption) (by repeat (first | with_reducible assumption | with_reducible exact Ent.h | apply Ent.t)) ?_
    | with_reducible refine at_front cx T (by with_reducible assumption) (by repeat (first | with_reducible assumption | with_reducible exact Ent.h | apply Ent.t)) ?_
    | with_reducible refine at_back cx T (by with_reducible assumption) (by repeat (first | with_reducible assumption | with_reducible exact Ent.h | apply Ent.t)) ?_
    | with_reducible refine at_fs cx T (by with_reducible assumption) (by repeat (first | with_reducible assumption | with_reducible exact Ent.h | apply Ent.t)) ?_
    | with_reducible refine at_bs cx T (by with_reducible assumption) (by repeat (first | with_reducible assumption | with_reducible exact Ent.h | apply Ent.t)) ?_)
  | (with_reducible refine ck_t ?_; first
    | with_reducible refine t_cmp ?_
    | with_reducible refine t_chain ?_
    | with_reducible refine t_not ?_
    | with_reducible refine t_and ?_
    | with_reducible refine t_or ?_
    | with_reducible refine t_val ?_)
  | (with_reducible refine ck_w ?_; first
    | with_reducible refine ww_and ?_
    | with_reducible refine ww_or ?_
    | with_reducible refine ww_and1 ?_
    | with_reducible refine ww_or1 ?_)
  | (with_reducible refine ck_p ?_; first
    | with_reducible refine p_l0 (by with_reducible assumption) (by repeat (first | with_reducible assumption | with_reducible exact Put.h | apply Put.t)) ?_
    | with_reducible refine p_l1 (by with_reducible assumption) (by repeat (first | with_reducible assumption | with_reducible exact Put.h | apply Put.t)) ?_
    | with_reducible refine p_l2 (by with_reducible assumption) (by repeat (first | with_reducible assumption | with_reducible exact Put.h | apply Put.t)) ?_)
  | (with_reducible refine ck_f ?_; first
    | with_reducible refine f_str (Nat.le_trans (by repeat (first | with_reducible exact l_emp | with_reducible exact l_en | with_reducible exact l_sp | with_reducible assumption | with_reducible exact l_frt (by first | with_reducible assumption | exact log_ok (by omega)) | with_reducible exact l_int (by first | with_reducible assumption | exact log_ok (by omega)) | with_reducible apply l_app | with_reducible exact Nat.le_refl _)) (Nat.le_of_ble_eq_true (by kernel_rfl))) ?_
    | with_reducible refine f_int (by first | with_reducible assumption | exact log_ok (by omega)) ?_)
  | (with_reducible refine ck_j ?_; first
    | with_reducible refine wj_nil ?_
    | with_reducible refine wj_cons ?_)
  | (with_reducible refine ck_g ?_; first
    | with_reducible refine g_name cx (by repeat (first | with_reducible exact SetAt.h | apply SetAt.t)) ?_
    | with_reducible refine g_sub ?_)
  | with_reducible refine k_Frame (by with_reducible assumption) (by omega) (by omega) (fun p H kn => ?_)
  | with_reducible refine k_sj (by repeat (first | with_reducible exact l_emp | with_reducible exact l_en | with_reducible exact l_sp | with_reducible assumption | with_reducible exact l_frt (by first | with_reducible assumption | exact log_ok (by omega)) | with_reducible exact l_int (by first | with_reducible assumption | exact log_ok (by omega)) | with_reducible apply l_app | with_reducible exact Nat.le_refl _)) (by kernel_rfl) ?_
  | with_reducible refine k_set (by repeat (first | with_reducible exact SetAt.h | apply SetAt.t)) ?_
  | with_reducible refine k_bl ?_
  | with_reducible refine iteT ?_
  | with_reducible refine iteF ?_
  | with_reducible refine i_not ?_
  | with_reducible refine i_t (by with_reducible rfl) ?_
  | with_reducible refine i_t ⟨rfl, rfl, rfl⟩ ?_
  | with_reducible refine i_t (by with_reducible assumption) ?_
  | with_reducible refine i_f (by with_reducible assumption) ?_
  | with_reducible refine i_t (by omega) ?_
  | with_reducible refine i_f (by omega) ?_
  | with_reducible refine i_t (by simp only [List.length_cons, List.length_nil]; omega) ?_
  | with_reducible refine i_f (by simp only [List.length_cons, List.length_nil]; omega) ?_
  | with_reducible refine o_neg ?_
  | with_reducible refine k_sfld (by with_reducible assumption) (by repeat (first | with_reducible assumption | with_reducible exact Put.h | apply Put.t)) (by repeat (first | with_reducible exact FL.z | apply FL.s)) (by with_unfolding_all rfl) ?_
  | with_reducible refine gs_nil ?_
  | with_reducible refine gs_cons ?_
  | (with_reducible refine ⟨_, _, _, (by with_reducible assumption), (by with_unfolding_all exact Nat.le_of_ble_eq_true rfl), ?_⟩; intro p H kn)
  | (with_reducible intro H kn))
/-! frames: text, ==, repr -/
def frText (n : Int) (f b : Bool) : Str := ((((Str.empty ++ en f) ++ " ") ++ Str.ofString (toString n)) ++ " ") ++ en b
def frRepr (n : Int) (f b : Bool) : Str := ((Str.empty ++ "Frame(") ++ frText n f b) ++ ")"
theorem l_en {f : Bool} : (en f).length ≤ 5 := by cases f <;> decide +kernel
theorem l_sp : (" " : Str).length ≤ 1 := by decide +kernel
theorem l_frt {n : Int} {f b : Bool} (h : n.natAbs.log2 < 1920) : (frText n f b).length ≤ 0 + 5 + 1 + 1921 + 1 + 5 := l_app (l_app (l_app (l_app (l_app l_emp l_en) l_sp) (l_int h)) l_sp) l_en
/-- what else of the class the ==, repr rules want -/
structure FrQ (K : PySem.W.Frag) (C fe fr : Addr) : Prop where
  eq : EqC K C fe
  rp : RpC K C fr
  ca : findIn K (.ref C) "__class__" = some (some (.builtin "object.__class__"))
  cn : PySem.W.specialIn K (.builtin "object.__class__") "__get__" = some (some (.builtin "getset_descriptor.__get__"))
  ct : PySem.W.takesIn K (.builtin "object.__class__") = some true
  me : PySem.W.kitOne K (.ref C) (.ref C) = some true
  kt : PySem.W.kitOne K (.type "tuple") (.ref C) = some false
  ks : PySem.W.kitOne K (.type "str") (.ref C) = some false
  nt : PySem.W.notFirst K C (.type "tuple") = true
  nst : PySem.W.notFirst K C (.type "str") = true
section
variable {P : Program} {w : World} {K : PySem.W.Frag} {mg : Str → Option Value} {base : Heap} {C d fe fr : Addr}
section
variable {k : Nat} {VL AL : List (Option Str)} {GL : List Str} {E : XK} {X : Cx} {σ : St} {H : Hp} {Q : VK} {pos : Pos} {R : Hp → Prop} {N : List (Addr × (HO → Prop))} {L : List (Addr × Obj)} {a : Addr} {n : Int} {f b : Bool}
theorem c_isi (cx : CxI P w K mg base k VL AL GL E X) {x : V} {t : Value} {r : Bool} (ty : TyX K H x t) (h1 : PySem.W.kitOne K t (.ref C) = some r) (h : Q (.bl r) H) : Wcall X (.builtin "isinstance") [x, .ref C] H Q := by
  have e3 := cx.eK
  subst e3
  exact ofCall call_isi ⟨x, .ref C, t, .ref C, r, rfl, .own C, ty, h1, h⟩
theorem c_isFr (cx : CxI P w K mg base k VL AL GL E X) (T : FrT K w mg C d) (q : FrQ K C fe fr) (kn : Kn R N L H) (e : Ent R (IsFr C a n f b)) (h : Q (.bl true) H) : Wcall X (.builtin "isinstance") [.ref a, .ref C] H Q := by
  obtain ⟨dx, e⟩ := kn.get e
  exact c_isi cx (.base (.ins e T.cl q.ca q.cn q.ct q.eq.mro)) q.me h
theorem c_isTu (cx : CxI P w K mg base k VL AL GL E X) (q : FrQ K C fe fr) (kn : Kn R N L H) {xs : List V} (e : Ent R (Ex a (.tup xs))) (h : Q (.bl false) H) : Wcall X (.builtin "isinstance") [.ref a, .ref C] H Q := c_isi cx (.base (.tup (kn.get e))) q.kt h
theorem c_isSt (cx : CxI P w K mg base k VL AL GL E X) (q : FrQ K C fe fr) {z : Str} (h : Q (.bl false) H) : Wcall X (.builtin "isinstance") [.str z, .ref C] H Q := c_isi cx (.base (.str z)) q.ks h
end
def spFrText (C : Addr) : Sp := fun vs H Q _ => ∃ (n : Int) (f b : Bool) (a : Addr) (R : Hp → Prop) (N : List (Addr × (HO → Prop))) (L : List (Addr × Obj)), vs = [.ref a] ∧ n.natAbs.log2 < 1920 ∧ Ent R (IsFr C a n f b) ∧ Kn R N L H ∧ ∀ H', Kn R N L H' → Q (.str (frText n f b)) H'
theorem ok_Frame_text {fa : Addr} {fd : FuncData} (F : Fun K "text" "Frame.text" s_Frame_text fa fd) (bl : ∀ x ∈ blts, mg x = none) (T : FrT K w mg C d) : Fk P w K mg base 1 fa fd ["self"] (spFrText C) := by
  refine fn_okW F sc_Frame_text nq_Frame_text ck_Frame_text bl (fun vs H Q E h => ?_) (fun X H vs Q E cx h => ?_)
  · obtain ⟨n, f, b, a, R, N, L, rfl, _⟩ := h
    rfl
  · obtain ⟨n, f, b, a, R, N, L, rfl, hn, e, kn, k⟩ := h
    change Wss X _ _ [_] _
    refine s_ret ?_
    repeat walk_at "k"
    exact k _ kn
/-- {self.text} and the like: a property of a frame that is known -/
theorem at_text {k : Nat} {VL AL : List (Option Str)} {GL : List Str} {E : XK} {X : Cx} {H : Hp} {Q : VK} {R : Hp → Prop} {N : List (Addr × (HO → Prop))} {L : List (Addr × Obj)} {a : Addr} {n : Int} {f b : Bool} {j : Nat} (cx : CxI P w K mg base k VL AL GL E X) (T : FrT K w mg C d) (D : Pr P w K mg base C "text" j (spFrText C)) (hj : Nat.ble (j + 1) k = true)
    (kn : Kn R N L H) (e : Ent R (IsFr C a n f b)) (hn : n.natAbs.log2 < 1920) (h : ∀ H', Kn R N L H' → Q (.str (frText n f b)) H') : Wat X (.ref a) "text" H Q := by
  obtain ⟨dx, e'⟩ := kn.get e
  exact at_prop cx T.cl D hj e' ⟨n, f, b, a, R, N, L, rfl, hn, e, kn, h⟩
def spFrRepr (C : Addr) : Sp := fun vs H Q _ => ∃ (n : Int) (f b : Bool) (a : Addr) (R : Hp → Prop) (N : List (Addr × (HO → Prop))) (L : List (Addr × Obj)), vs = [.ref a] ∧ n.natAbs.log2 < 1920 ∧ Ent R (IsFr C a n f b) ∧ Kn R N L H ∧ ∀ H', Kn R N L H' → Q (.str (frRepr n f b)) H'
theorem ok_Frame_repr {fa : Addr} {fd : FuncData} (F : Fun K "__repr__" "Frame.__repr__" s_Frame_repr fa fd) (bl : ∀ x ∈ blts, mg x = none) (T : FrT K w mg C d) (D : Pr P w K mg base C "text" 1 (spFrText C)) : Fk P w K mg base 3 fa fd ["self"] (spFrRepr C) := by
  refine fn_okW F sc_Frame_repr nq_Frame_repr ck_Frame_repr bl (fun vs H Q E h => ?_) (fun X H vs Q E cx h => ?_)
  · obtain ⟨n, f, b, a, R, N, L, rfl, _⟩ := h
    rfl
  · obtain ⟨n, f, b, a, R, N, L, rfl, hn, e, kn, k⟩ := h
    change Wss X _ _ [_] _
    refine s_ret ?_
    repeat walk_at "k"
    refine at_text cx T D rfl kn e hn fun H kn => ?_
    repeat walk_at "k"
    exact k _ kn
/-- what a frame is compared with, and the answer -/
def FrCmp (C : Addr) (R : Hp → Prop) (n : Int) (f b : Bool) (H : Hp) (y : V) (c : Bool) : Prop :=
  (∃ a' n' f' b', y = .ref a' ∧ Ent R (IsFr C a' n' f' b') ∧ c = decide (n = n' ∧ f = f' ∧ b = b')) ∨ (c = false ∧ ((∃ p xs, y = .ref p ∧ Ent R (Ex p (.tup xs))) ∨ ∃ s, y = .str s))
def spFrEq (C : Addr) : Sp := fun vs H Q _ => ∃ (n : Int) (f b : Bool) (a : Addr) (y : V) (c : Bool) (R : Hp → Prop) (N : List (Addr × (HO → Prop))) (L : List (Addr × Obj)), vs = [.ref a, y] ∧ Ent R (IsFr C a n f b) ∧ FrCmp C R n f b H y c ∧ Kn R N L H ∧ ∀ H', Kn R N L H' → Q (.bl c) H'
theorem ok_Frame_eq {fa : Addr} {fd : FuncData} (F : Fun K "__eq__" "Frame.__eq__" s_Frame_eq fa fd) (bl : ∀ x ∈ blts, mg x = none) (T : FrT K w mg C d) (q : FrQ K C fe fr) : Fk P w K mg base 1 fa fd ["self", "other"] (spFrEq C) := by
  refine fn_okW F sc_Frame_eq nq_Frame_eq ck_Frame_eq bl (fun vs H Q E h => ?_) (fun X H vs Q E cx h => ?_)
  · obtain ⟨n, f, b, a, y, c, R, N, L, rfl, _⟩ := h
    rfl
  · obtain ⟨n, f, b, a, y, c, R, N, L, rfl, e, hc, kn, k⟩ := h
    change Wss X _ _ [_, _] _
    refine s_if ?_
    rcases hc with ⟨a', n', f', b', rfl, e', rfl⟩ | ⟨rfl, ⟨p, xs, rfl, e'⟩ | ⟨s, rfl⟩⟩
    · repeat walk_at "k"
      refine i_2 (fun hn => ?_) fun hn => ?_
      · repeat walk_at "k"
        refine i_2 (fun hf => ?_) fun hf => ?_
        · repeat walk_at "k"
          have z : decide (n = n' ∧ f = f' ∧ b = b') = decide (en b = en b') := by
            rw [en_inj] at hf
            simp only [hn, hf, en_inj, true_and]
          rw [z] at k
          exact k _ kn
        · have z : decide (n = n' ∧ f = f' ∧ b = b') = false := by
            rw [en_inj] at hf
            simp [hf]
          rw [z] at k
          exact k _ kn
      · have z : decide (n = n' ∧ f = f' ∧ b = b') = false := by simp [hn]
        rw [z] at k
        exact k _ kn
    · repeat walk_at "k"
      exact k _ kn
    · repeat walk_at "k"
      exact k _ kn
end

end
end U

namespace U
section
open PySem PySem.Spec L2
open PySem.W (findIn isFn mroIn Looks InstAt)
open PyProof.Rows hiding St
set_option hygiene false
local macro_rules | `(tactic| walk_at "k") => `(tactic| first
  | (with_reducible refine ck_e ?_; first
    | with_reducible refine w_SIGNS cx T (by repeat (first | with_reducible exact In.h | apply In.t)) ?_
    | with_reducible refine w_Frame cx T (by repeat (first | with_reducible exact In.h | apply In.t)) ?_
    | with_reducible refine w_call cx (by repeat (first | with_reducible exact In.h | apply In.t)) D1 (by kernel_rfl) ?_
    | with_reducible refine w_make cx (by repeat (first | with_reducible exact In.h | apply In.t)) DF (by kernel_rfl) ?_
    | with_reducible refine w_var cx (by repeat (first | with_reducible exact SlotIs.h | apply SlotIs.t)) ?_
    | with_reducible refine w_int ?_
    | with_reducible refine w_bin ?_
    | with_reducible refine w_ix ?_
    | with_reducible refine w_cmp ?_
    | with_reducible refine w_str ?_
    | with_reducible refine w_tupK ?_
    | with_reducible refine w_lstK ?_
    | with_reducible refine w_len cx (by repeat (first | with_reducible exact In.h | apply In.t)) ?_
    | with_reducible refine w_max cx (by repeat (first | with_reducible exact In.h | apply In.t)) ?_
    | with_reducible refine w_min cx (by repeat (first | with_reducible exact In.h | apply In.t)) ?_
    | with_reducible refine w_abs cx (by repeat (first | with_reducible exact In.h | apply In.t)) ?_
    | with_reducible refine w_repr cx (by repeat (first | with_reducible exact In.h | apply In.t)) ?_
    | with_reducible refine w_isinstance cx (by repeat (first | with_reducible exact In.h | apply In.t)) ?_
    | with_reducible refine w_sorted cx (by repeat (first | with_reducible exact In.h | apply In.t)) ?_
    | with_reducible refine w_all cx (by repeat (first | with_reducible exact In.h | apply In.t)) ?_
    | with_reducible refine w_any cx (by repeat (first | with_reducible exact In.h | apply In.t)) ?_
    | with_reducible refine w_sum cx (by repeat (first | with_reducible exact In.h | apply In.t)) ?_
    | with_reducible refine w_intT cx (by repeat (first | with_reducible exact In.h | apply In.t)) ?_
    | with_reducible refine w_strT cx (by repeat (first | with_reducible exact In.h | apply In.t)) ?_
    | with_reducible refine w_tupleT cx (by repeat (first | with_reducible exact In.h | apply In.t)) ?_
    | with_reducible refine w_listT cx (by repeat (first | with_reducible exact In.h | apply In.t)) ?_
    | with_reducible refine w_dictT cx (by repeat (first | with_reducible exact In.h | apply In.t)) ?_
    | with_reducible refine w_boolT cx (by repeat (first | with_reducible exact In.h | apply In.t)) ?_
    | with_reducible refine w_attr ?_
    | with_reducible refine w_un ?_
    | with_reducible refine w_chain ?_
    | with_reducible refine w_and ?_
    | with_reducible refine w_or ?_
    | with_reducible refine w_bool1 ?_
    | with_reducible refine w_not ?_
    | with_reducible refine w_if ?_
    | with_reducible refine w_bl ?_
    | with_reducible refine w_non ?_
    | with_reducible refine w_joined ?_
    | with_reducible refine w_joined1 ?_
    | with_reducible refine w_fmt ?_)
  | (with_reducible refine ck_a ?_; first
    | with_reducible refine wa_cons ?_
    | with_reducible refine wa_nil ?_)
  | (with_reducible refine ck_s ?_; first
    | with_reducible refine s_fld cx T.cl T.n1 ?_
    | with_reducible refine s_fld cx T.cl T.n2 ?_
    | with_reducible refine s_fld cx T.cl T.n3 ?_
    | with_reducible refine s_fld cx T.cl T.n4 ?_
    | with_reducible refine s_fld cx T.cl T.n5 ?_
    | with_reducible refine s_set cx ?_
    | with_reducible refine s_if ?_
    | with_reducible refine s_ret ?_
    | with_reducible refine s_nil ?_
    | with_reducible refine s_expr ?_
    | with_reducible refine s_asg ?_
    | with_reducible refine s_pass ?_
    | with_reducible refine s_break ?_
    | with_reducible refine s_cont ?_
    | with_reducible refine s_retN ?_)
  | (with_reducible refine ck_o ?_; first
    | with_reducible refine o_ninSg cx T ?_
    | with_reducible refine o_addSn (by repeat (first | with_reducible exact l_emp | with_reducible exact l_en | with_reducible exact l_sp | with_reducible assumption | with_reducible exact l_frt (by first | with_reducible assumption | exact log_ok (by omega)) | with_reducible exact l_int (by first | with_reducible assumption | exact log_ok (by omega)) | with_reducible apply l_app | with_reducible exact Nat.le_refl _)) (by repeat (first | with_reducible exact l_emp | with_reducible exact l_en | with_reducible exact l_sp | with_reducible assumption | with_reducible exact l_frt (by first | with_reducible assumption | exact log_ok (by omega)) | with_reducible exact l_int (by first | with_reducible assumption | exact log_ok (by omega)) | with_reducible apply l_app | with_reducible exact Nat.le_refl _)) (by kernel_rfl) ?_
    | with_reducible refine o_add ?_
    | with_reducible refine o_sub ?_
    | with_reducible refine o_lt ?_
    | with_reducible refine o_le ?_
    | with_reducible refine o_gt ?_
    | with_reducible refine o_ge ?_
    | with_reducible refine o_eqI ?_
    | with_reducible refine o_neI ?_
    | with_reducible refine o_eqS ?_
    | with_reducible refine o_neS ?_
    | with_reducible refine o_neB ?_
    | with_reducible refine o_eqB ?_
    | with_reducible refine o_isN ?_
    | with_reducible refine o_notN ?_
    | with_reducible refine o_mod (by omega) ?_
    | with_reducible refine o_mulL (by omega) ?_
    | with_reducible refine o_mulR (by omega) ?_
    | with_reducible refine o_fdiv (by omega) ?_
    | with_reducible refine o_pow (by simp only [Int.reduceToNat, Int.reducePow]; first | done | rfl) (by omega) (by decide +kernel) ?_
    | with_reducible refine o_neL0 cx (by with_reducible assumption) (by repeat (first | with_reducible assumption | with_reducible exact Has.h | apply Has.t)) (by repeat (first | with_reducible assumption | with_reducible exact Has.h | apply Has.t)) ?_
    | with_reducible refine o_fdivB (by omega) ?_)
  | (with_reducible refine ck_c ?_; first
    | with_reducible refine c_isFr cx T q (by with_reducible assumption) (by repeat (first | with_reducible assumption | with_reducible exact Ent.h | apply Ent.t)) ?_
    | with_reducible refine c_isTu cx q (by with_reducible assumption) (by repeat (first | with_reducible assumption | with_reducible exact Ent.h | apply Ent.t)) ?_
    | with_reducible refine c_isSt cx q ?_
    | with_reducible refine c_strI (by first | with_reducible assumption | exact log_ok (by omega)) ?_
    | with_reducible refine c_reprI (by first | with_reducible assumption | exact log_ok (by omega)) ?_
    | with_reducible refine c_lenS (Nat.le_trans (by repeat (first | with_reducible exact l_emp | with_reducible exact l_en | with_reducible exact l_sp | with_reducible assumption | with_reducible exact l_frt (by first | with_reducible assumption | exact log_ok (by omega)) | with_reducible exact l_int (by first | with_reducible assumption | exact log_ok (by omega)) | with_reducible apply l_app | with_reducible exact Nat.le_refl _)) (Nat.le_of_ble_eq_true (by kernel_rfl))) ?_
    | with_reducible refine c_max cx ?_
    | with_reducible refine c_min cx ?_
    | with_reducible refine c_abs ?_
    | with_reducible refine c_intI ?_
    | with_reducible refine c_intB ?_
    | with_reducible refine c_strS ?_
    | with_reducible refine c_lenT (by with_reducible assumption) (by repeat (first | with_reducible assumption | with_reducible exact Ent.h | apply Ent.t)) ?_
    | with_reducible refine c_lenL (by with_reducible assumption) (by repeat (first | with_reducible assumption | with_reducible exact Has.h | apply Has.t)) ?_
    | with_reducible refine c_lenX (by with_reducible assumption) (by repeat (first | with_reducible assumption | with_reducible exact Ent.h | apply Ent.t)) ?_
    | with_reducible refine c_lenQ cx (by with_reducible assumption) (by repeat (first | with_reducible assumption | with_reducible exact Ent.h | apply Ent.t)) ?_)
  | (with_reducible refine ck_x ?_; first
    | with_reducible refine x_Sg cx T ?_
    | with_reducible refine x_tup (by with_reducible assumption) (by repeat (first | with_reducible assumption | with_reducible exact Ent.h | apply Ent.t)) (by first | with_reducible exact at0 | with_reducible exact at1 | with_reducible exact at2) ?_
    | with_reducible refine x_lst (by with_reducible assumption) (by repeat (first | with_reducible assumption | with_reducible exact Has.h | apply Has.t)) (by first | with_reducible exact at0 | with_reducible exact at1 | with_reducible exact at2) ?_
    | with_reducible refine x_lstX (by with_reducible assumption) (by repeat (first | with_reducible assumption | with_reducible exact Ent.h | apply Ent.t)) (by first | with_reducible exact at0 | with_reducible exact at1 | with_reducible exact at2) ?_)
  | (with_reducible refine ck_at ?_; first
    | with_reducible refine at_most cx T ?_
    | with_reducible refine at_pieces cx T (by with_reducible assumption) (by repeat (first | with_reducible assumption | with_reducible exact Ent.h | apply Ent.t)) ?_
    | with_reducible refine at_front cx T (by with_reducible assumption) (by repeat (first | with_reducible assumption | with_reducible exact Ent.h | apply Ent.t)) ?_
    | with_reducible refine at_back cx T (by with_reducible assumption) (by repeat (first | with_reducible assumption | with_reducible exact Ent.h | apply Ent.t)) ?_
    | with_reducible refine at_fs cx T (by with_reducible assumption) (by repeat (first | with_reducible assumption | with_reducible exact Ent.h | apply Ent.t)) ?_
    | with_reducible refine at_bs cx T (by with_reducible assumption) (by repeat (first | with_reducible assumption | with_reducible exact Ent.h | apply Ent.t)) ?_)
  | (with_reducible refine ck_t ?_; first
    | with_reducible refine t_cmp ?_
    | with_reducible refine t_chain ?_
    | with_reducible refine t_not ?_
    | with_reducible refine t_and ?_
    | with_reducible refine t_or ?_
    | with_reducible refine t_val ?_)
  | (with_reducible refine ck_w ?_; first
    | with_reducible refine ww_and ?_
    | with_reducible refine ww_or ?_
    | with_reducible refine ww_and1 ?_
    | with_reducible refine ww_or1 ?_)
  | (with_reducible refine ck_p ?_; first
    | with_reducible refine p_l0 (by with_reducible assumption) (by repeat (first | with_reducible assumption | with_reducible exact Put.h | apply Put.t)) ?_
    | with_reducible refine p_l1 (by with_reducible assumption) (by repeat (first | with_reducible assumption | with_reducible exact Put.h | apply Put.t)) ?_
    | with_reducible refine p_l2 (by with_reducible assumption) (by repeat (first | with_reducible assumption | with_reducible exact Put.h | apply Put.t)) ?_)
  | (with_reducible refine ck_f ?_; first
    | with_reducible refine f_str (Nat.le_trans (by repeat (first | with_reducible exact l_emp | with_reducible exact l_en | with_reducible exact l_sp | with_reducible assumption | with_reducible exact l_frt (by first | with_reducible assumption | exact log_ok (by omega)) | with_reducible exact l_int (by first | with_reducible assumption | exact log_ok (by omega)) | with_reducible apply l_app | with_reducible exact Nat.le_refl _)) (Nat.le_of_ble_eq_true (by kernel_rfl))) ?_
    | with_reducible refine f_int (by first | with_reducible assumption | exact log_ok (by omega)) ?_)
  | (with_reducible refine ck_j ?_; first
    | with_reducible refine wj_nil ?_
    | with_reducible refine wj_cons ?_)
  | (with_reducible refine ck_g ?_; first
    | with_reducible refine g_name cx (by repeat (first | with_reducible exact SetAt.h | apply SetAt.t)) ?_
    | with_reducible refine g_sub ?_)
  | with_reducible refine k_Frame (by with_reducible assumption) (by omega) (by omega) (fun p H kn => ?_)
  | with_reducible refine k_sj (by repeat (first | with_reducible exact l_emp | with_reducible exact l_en | with_reducible exact l_sp | with_reducible assumption | with_reducible exact l_frt (by first | with_reducible assumption | exact log_ok (by omega)) | with_reducible exact l_int (by first | with_reducible assumption | exact log_ok (by omega)) | with_reducible apply l_app | with_reducible exact Nat.le_refl _)) (by kernel_rfl) ?_
  | with_reducible refine k_set (by repeat (first | with_reducible exact SetAt.h | apply SetAt.t)) ?_
  | with_reducible refine k_bl ?_
  | with_reducible refine iteT ?_
  | with_reducible refine iteF ?_
  | with_reducible refine i_not ?_
  | with_reducible refine i_t (by with_reducible rfl) ?_
  | with_reducible refine i_t ⟨rfl, rfl, rfl⟩ ?_
  | with_reducible refine i_t (by with_reducible assumption) ?_
  | with_reducible refine i_f (by with_reducible assumption) ?_
  | with_reducible refine i_t (by omega) ?_
  | with_reducible refine i_f (by omega) ?_
  | with_reducible refine i_t (by simp only [List.length_cons, List.length_nil]; omega) ?_
  | with_reducible refine i_f (by simp only [List.length_cons, List.length_nil]; omega) ?_
  | with_reducible refine o_neg ?_
  | with_reducible refine k_sfld (by with_reducible assumption) (by repeat (first | with_reducible assumption | with_reducible exact Put.h | apply Put.t)) (by repeat (first | with_reducible exact FL.z | apply FL.s)) (by with_unfolding_all rfl) ?_
  | with_reducible refine gs_nil ?_
  | with_reducible refine gs_cons ?_
  | (with_reducible refine ⟨_, _, _, (by with_reducible assumption), (by with_unfolding_all exact Nat.le_of_ble_eq_true rfl), ?_⟩; intro p H kn)
  | (with_reducible intro H kn))
/-! the law's drawn frames -/
theorem k_draw {s : Addr} {b c : Int} {R : Hp → Prop} {N N' : List (Addr × (HO → Prop))} {L : List (Addr × Obj)} {H : Hp} {Q : VK} {E : XK} (hp : Put s (IsSrc c) (IsSrc (c + 1)) N N') (kn : Kn R N L H) (h0 : 0 < b) (h1 : b < 1361129467683753853853498429727072845824) (c0 : 0 ≤ c) (c1 : c ≤ 1152921504606846976)
    (h : ∀ (v : Int) (H' : Hp), 0 ≤ v → v < b → Kn R N' L H' → Q (.int v) H') : spDraw [.ref s, .int b] H Q E := ⟨s, b, c, R, N, N', L, rfl, h0, h1, c0, c1, hp, kn, h⟩
theorem IsSrc.mono {c d : Int} (h : c ≤ d) : ∀ o, IsSrc c o → IsSrc d o := fun o ⟨a, s, i, e, h0, h1, h2, h3, h4⟩ => ⟨a, s, i, e, h0, h1, h2, h3, by omega⟩
/-- a drawn frame's tuple -/
def Gv (n : Int) (f b : Bool) : HO := .tup [.int n, .str (en f), .str (en b)]
def spLawFrame : Sp := fun vs H Q _ => ∃ (s : Addr) (m c : Int) (R : Hp → Prop) (N N' : List (Addr × (HO → Prop))) (L : List (Addr × Obj)), vs = [.ref s, .int m] ∧ 0 < m ∧ m ≤ 1000000000000000000 ∧ 0 ≤ c ∧ c ≤ 1000000000000000000 ∧ Put s (IsSrc c) (IsSrc (c + 3)) N N' ∧ Kn R N L H ∧
  ∀ p n f b H', 1 ≤ n → n ≤ m → Kn (Cj (Ex p (.tup [.int n, .str (en f), .str (en b)])) R) N' L H' → Q (.ref p) H'
section
variable {P : Program} {w : World} {K : PySem.W.Frag} {mg : Str → Option Value} {base : Heap} {C d fe fr : Addr}
theorem ok_lawframe {fa : Addr} {fd : FuncData} (F : Fun K "_law_frame" "_law_frame" s_frame fa fd) (bl : ∀ x ∈ blts, mg x = none) (D1 : Df P w K mg base "_law_draw" 1 ["_law_source_here", "_law_bound"] spDraw) : Fk P w K mg base 2 fa fd ["_law_source_here", "_law_most"] spLawFrame := by
  refine fn_okW F sc_frame nq_frame ck_frame bl (fun vs H Q E h => ?_) (fun X H vs Q E cx h => ?_)
  · obtain ⟨s, m, c, R, N, N', L, rfl, _⟩ := h
    rfl
  · obtain ⟨s, m, c, R, N, N', L, rfl, m0, m1, c0, c1, hp, kn, k⟩ := h
    obtain ⟨M, f1, f2⟩ := hp.focus
    replace kn := f1 _ _ _ kn
    change Wss X _ _ [_, _, _] _
    refine s_set cx ?_
    repeat walk_at "k"
    refine k_draw (by repeat (first | with_reducible exact Put.h | apply Put.t)) kn (by omega) (by omega) (by omega) (by omega) fun v1 H v10 v11 kn => ?_
    repeat walk_at "k"
    refine k_draw (by repeat (first | with_reducible exact Put.h | apply Put.t)) kn (by omega) (by omega) (by omega) (by omega) fun v2 H v20 v21 kn => ?_
    refine x_lst kn .h (ends_at v20 v21) ?_
    repeat walk_at "k"
    refine k_draw (by repeat (first | with_reducible exact Put.h | apply Put.t)) kn (by omega) (by omega) (by omega) (by omega) fun v3 H v30 v31 kn => ?_
    refine x_lst kn .h (ends_at v30 v31) ?_
    repeat walk_at "k"
    refine k _ _ _ _ _ ?_ ?_ (f2 _ _ _ (kn.drop1.imp .h (IsSrc.mono (by omega))))
    · omega
    · omega
def spLawMade (C : Addr) : Sp := fun vs H Q _ => ∃ (p : Addr) (n : Int) (f b : Bool) (R : Hp → Prop) (N : List (Addr × (HO → Prop))) (L : List (Addr × Obj)), vs = [.ref p] ∧ 1 ≤ n ∧ n ≤ 1000000000000000000 ∧ Ent R (Ex p (.tup [.int n, .str (en f), .str (en b)])) ∧ Kn R N L H ∧
  ∀ a H', Kn (Cj (IsFr C a n f b) R) N L H' → Q (.ref a) H'
theorem ok_lawmade {fa : Addr} {fd : FuncData} (F : Fun K "_law_made" "_law_made" s_made fa fd) (bl : ∀ x ∈ blts, mg x = none) (DF : Cl P w K mg base C "Frame" 1 ["self", "pieces", "front", "back"] (spFrInit C)) : Fk P w K mg base 3 fa fd ["_law_given"] (spLawMade C) := by
  refine fn_okW F sc_made nq_made ck_made bl (fun vs H Q E h => ?_) (fun X H vs Q E cx h => ?_)
  · obtain ⟨s, m, c, R, N, N', L, rfl, _⟩ := h
    rfl
  · obtain ⟨p, n, f, b, R, N, L, rfl, h0, h1, e, kn, k⟩ := h
    change Wss X _ _ [_] _
    refine s_ret ?_
    repeat walk_at "k"
    exact k _ _ kn
end

end
end U

namespace U
section
open PySem PySem.Spec L2
open PySem.W (findIn isFn mroIn Looks InstAt)
open PyProof.Rows hiding St
set_option hygiene false
local macro_rules | `(tactic| walk_at "k") => `(tactic| first
  | (with_reducible refine ck_e ?_; first
    | with_reducible refine w_DIG cx T (by repeat (first | with_reducible exact In.h | apply In.t)) ?_
    | with_reducible refine w_MOST cx T (by repeat (first | with_reducible exact In.h | apply In.t)) ?_
    | with_reducible refine w_var cx (by repeat (first | with_reducible exact SlotIs.h | apply SlotIs.t)) ?_
    | with_reducible refine w_int ?_
    | with_reducible refine w_bin ?_
    | with_reducible refine w_ix ?_
    | with_reducible refine w_cmp ?_
    | with_reducible refine w_str ?_
    | with_reducible refine w_tupK ?_
    | with_reducible refine w_lstK ?_
    | with_reducible refine w_len cx (by repeat (first | with_reducible exact In.h | apply In.t)) ?_
    | with_reducible refine w_max cx (by repeat (first | with_reducible exact In.h | apply In.t)) ?_
    | with_reducible refine w_min cx (by repeat (first | with_reducible exact In.h | apply In.t)) ?_
    | with_reducible refine w_abs cx (by repeat (first | with_reducible exact In.h | apply In.t)) ?_
    | with_reducible refine w_repr cx (by repeat (first | with_reducible exact In.h | apply In.t)) ?_
    | with_reducible refine w_isinstance cx (by repeat (first | with_reducible exact In.h | apply In.t)) ?_
    | with_reducible refine w_sorted cx (by repeat (first | with_reducible exact In.h | apply In.t)) ?_
    | with_reducible refine w_all cx (by repeat (first | with_reducible exact In.h | apply In.t)) ?_
    | with_reducible refine w_any cx (by repeat (first | with_reducible exact In.h | apply In.t)) ?_
    | with_reducible refine w_sum cx (by repeat (first | with_reducible exact In.h | apply In.t)) ?_
    | with_reducible refine w_intT cx (by repeat (first | with_reducible exact In.h | apply In.t)) ?_
    | with_reducible refine w_strT cx (by repeat (first | with_reducible exact In.h | apply In.t)) ?_
    | with_reducible refine w_tupleT cx (by repeat (first | with_reducible exact In.h | apply In.t)) ?_
    | with_reducible refine w_listT cx (by repeat (first | with_reducible exact In.h | apply In.t)) ?_
    | with_reducible refine w_dictT cx (by repeat (first | with_reducible exact In.h | apply In.t)) ?_
    | with_reducible refine w_boolT cx (by repeat (first | with_reducible exact In.h | apply In.t)) ?_
    | with_reducible refine w_attr ?_
    | with_reducible refine w_un ?_
    | with_reducible refine w_chain ?_
    | with_reducible refine w_and ?_
    | with_reducible refine w_or ?_
    | with_reducible refine w_bool1 ?_
    | with_reducible refine w_not ?_
    | with_reducible refine w_if ?_
    | with_reducible refine w_bl ?_
    | with_reducible refine w_non ?_
    | with_reducible refine w_joined ?_
    | with_reducible refine w_joined1 ?_
    | with_reducible refine w_fmt ?_)
  | (with_reducible refine ck_a ?_; first
    | with_reducible refine wa_cons ?_
    | with_reducible refine wa_nil ?_)
  | (with_reducible refine ck_s ?_; first
    | with_reducible refine s_set cx ?_
    | with_reducible refine s_if ?_
    | with_reducible refine s_ret ?_
    | with_reducible refine s_nil ?_
    | with_reducible refine s_expr ?_
    | with_reducible refine s_asg ?_
    | with_reducible refine s_pass ?_
    | with_reducible refine s_break ?_
    | with_reducible refine s_cont ?_
    | with_reducible refine s_retN ?_)
  | (with_reducible refine ck_o ?_; first
    | with_reducible refine o_inDg ?_
    | with_reducible refine o_addSn (by repeat (first | with_reducible exact l_emp | with_reducible exact l_en | with_reducible exact l_sp | with_reducible assumption | with_reducible exact l_frt (by first | with_reducible assumption | exact log_ok (by omega)) | with_reducible exact l_int (by first | with_reducible assumption | exact log_ok (by omega)) | with_reducible apply l_app | with_reducible exact Nat.le_refl _)) (by repeat (first | with_reducible exact l_emp | with_reducible exact l_en | with_reducible exact l_sp | with_reducible assumption | with_reducible exact l_frt (by first | with_reducible assumption | exact log_ok (by omega)) | with_reducible exact l_int (by first | with_reducible assumption | exact log_ok (by omega)) | with_reducible apply l_app | with_reducible exact Nat.le_refl _)) (by kernel_rfl) ?_
    | with_reducible refine o_add ?_
    | with_reducible refine o_sub ?_
    | with_reducible refine o_lt ?_
    | with_reducible refine o_le ?_
    | with_reducible refine o_gt ?_
    | with_reducible refine o_ge ?_
    | with_reducible refine o_eqI ?_
    | with_reducible refine o_neI ?_
    | with_reducible refine o_eqS ?_
    | with_reducible refine o_neS ?_
    | with_reducible refine o_neB ?_
    | with_reducible refine o_eqB ?_
    | with_reducible refine o_isN ?_
    | with_reducible refine o_notN ?_
    | with_reducible refine o_mod (by omega) ?_
    | with_reducible refine o_mulL (by omega) ?_
    | with_reducible refine o_mulR (by omega) ?_
    | with_reducible refine o_fdiv (by omega) ?_
    | with_reducible refine o_pow (by simp only [Int.reduceToNat, Int.reducePow]; first | done | rfl) (by omega) (by decide +kernel) ?_
    | with_reducible refine o_neL0 cx (by with_reducible assumption) (by repeat (first | with_reducible assumption | with_reducible exact Has.h | apply Has.t)) (by repeat (first | with_reducible assumption | with_reducible exact Has.h | apply Has.t)) ?_
    | with_reducible refine o_fdivB (by omega) ?_)
  | (with_reducible refine ck_c ?_; first
    | with_reducible refine c_all cx (by with_reducible assumption) (by repeat (first | with_reducible assumption | with_reducible exact Has.h | apply Has.t)) ?_
    | with_reducible refine c_strI (by first | with_reducible assumption | exact log_ok (by omega)) ?_
    | with_reducible refine c_reprI (by first | with_reducible assumption | exact log_ok (by omega)) ?_
    | with_reducible refine c_lenS (Nat.le_trans (by repeat (first | with_reducible exact l_emp | with_reducible exact l_en | with_reducible exact l_sp | with_reducible assumption | with_reducible exact l_frt (by first | with_reducible assumption | exact log_ok (by omega)) | with_reducible exact l_int (by first | with_reducible assumption | exact log_ok (by omega)) | with_reducible apply l_app | with_reducible exact Nat.le_refl _)) (Nat.le_of_ble_eq_true (by kernel_rfl))) ?_
    | with_reducible refine c_max cx ?_
    | with_reducible refine c_min cx ?_
    | with_reducible refine c_abs ?_
    | with_reducible refine c_intI ?_
    | with_reducible refine c_intB ?_
    | with_reducible refine c_strS ?_
    | with_reducible refine c_lenT (by with_reducible assumption) (by repeat (first | with_reducible assumption | with_reducible exact Ent.h | apply Ent.t)) ?_
    | with_reducible refine c_lenL (by with_reducible assumption) (by repeat (first | with_reducible assumption | with_reducible exact Has.h | apply Has.t)) ?_
    | with_reducible refine c_lenX (by with_reducible assumption) (by repeat (first | with_reducible assumption | with_reducible exact Ent.h | apply Ent.t)) ?_
    | with_reducible refine c_lenQ cx (by with_reducible assumption) (by repeat (first | with_reducible assumption | with_reducible exact Ent.h | apply Ent.t)) ?_)
  | (with_reducible refine ck_x ?_; first
    | with_reducible refine x_tup (by with_reducible assumption) (by repeat (first | with_reducible assumption | with_reducible exact Ent.h | apply Ent.t)) (by first | with_reducible exact at0 | with_reducible exact at1 | with_reducible exact at2) ?_
    | with_reducible refine x_lst (by with_reducible assumption) (by repeat (first | with_reducible assumption | with_reducible exact Has.h | apply Has.t)) (by first | with_reducible exact at0 | with_reducible exact at1 | with_reducible exact at2) ?_
    | with_reducible refine x_lstX (by with_reducible assumption) (by repeat (first | with_reducible assumption | with_reducible exact Ent.h | apply Ent.t)) (by first | with_reducible exact at0 | with_reducible exact at1 | with_reducible exact at2) ?_)
  | (with_reducible refine ck_t ?_; first
    | with_reducible refine t_cmp ?_
    | with_reducible refine t_chain ?_
    | with_reducible refine t_not ?_
    | with_reducible refine t_and ?_
    | with_reducible refine t_or ?_
    | with_reducible refine t_val ?_)
  | (with_reducible refine ck_w ?_; first
    | with_reducible refine ww_and ?_
    | with_reducible refine ww_or ?_
    | with_reducible refine ww_and1 ?_
    | with_reducible refine ww_or1 ?_)
  | (with_reducible refine ck_p ?_; first
    | with_reducible refine p_l0 (by with_reducible assumption) (by repeat (first | with_reducible assumption | with_reducible exact Put.h | apply Put.t)) ?_
    | with_reducible refine p_l1 (by with_reducible assumption) (by repeat (first | with_reducible assumption | with_reducible exact Put.h | apply Put.t)) ?_
    | with_reducible refine p_l2 (by with_reducible assumption) (by repeat (first | with_reducible assumption | with_reducible exact Put.h | apply Put.t)) ?_)
  | (with_reducible refine ck_f ?_; first
    | with_reducible refine f_str (Nat.le_trans (by repeat (first | with_reducible exact l_emp | with_reducible exact l_en | with_reducible exact l_sp | with_reducible assumption | with_reducible exact l_frt (by first | with_reducible assumption | exact log_ok (by omega)) | with_reducible exact l_int (by first | with_reducible assumption | exact log_ok (by omega)) | with_reducible apply l_app | with_reducible exact Nat.le_refl _)) (Nat.le_of_ble_eq_true (by kernel_rfl))) ?_
    | with_reducible refine f_int (by first | with_reducible assumption | exact log_ok (by omega)) ?_)
  | (with_reducible refine ck_j ?_; first
    | with_reducible refine wj_nil ?_
    | with_reducible refine wj_cons ?_)
  | (with_reducible refine ck_g ?_; first
    | with_reducible refine g_name cx (by repeat (first | with_reducible exact SetAt.h | apply SetAt.t)) ?_
    | with_reducible refine g_sub ?_)
  | with_reducible refine k_sj (by repeat (first | with_reducible exact l_emp | with_reducible exact l_en | with_reducible exact l_sp | with_reducible assumption | with_reducible exact l_frt (by first | with_reducible assumption | exact log_ok (by omega)) | with_reducible exact l_int (by first | with_reducible assumption | exact log_ok (by omega)) | with_reducible apply l_app | with_reducible exact Nat.le_refl _)) (by kernel_rfl) ?_
  | with_reducible refine k_set (by repeat (first | with_reducible exact SetAt.h | apply SetAt.t)) ?_
  | with_reducible refine k_bl ?_
  | with_reducible refine iteT ?_
  | with_reducible refine iteF ?_
  | with_reducible refine i_not ?_
  | with_reducible refine i_t (by with_reducible rfl) ?_
  | with_reducible refine i_t ⟨rfl, rfl, rfl⟩ ?_
  | with_reducible refine i_t (by with_reducible assumption) ?_
  | with_reducible refine i_f (by with_reducible assumption) ?_
  | with_reducible refine i_t (by omega) ?_
  | with_reducible refine i_f (by omega) ?_
  | with_reducible refine i_t (by simp only [List.length_cons, List.length_nil]; omega) ?_
  | with_reducible refine i_f (by simp only [List.length_cons, List.length_nil]; omega) ?_
  | with_reducible refine o_neg ?_
  | with_reducible refine k_sfld (by with_reducible assumption) (by repeat (first | with_reducible assumption | with_reducible exact Put.h | apply Put.t)) (by repeat (first | with_reducible exact FL.z | apply FL.s)) (by with_unfolding_all rfl) ?_
  | with_reducible refine gs_nil ?_
  | with_reducible refine gs_cons ?_
  | (with_reducible refine ⟨_, _, _, (by with_reducible assumption), (by with_unfolding_all exact Nat.le_of_ble_eq_true rfl), ?_⟩; intro p H kn)
  | (with_reducible intro H kn))
/-! number_of -/
def isDg (c : Nat) : Bool := decide (c ∈ ("0123456789" : Str).cps.toList)
def okNum (z : Str) : Bool := decide (1 ≤ z.length) && decide (z.length ≤ 19) && z.cps.toList.all isDg && !decide (z.cps.toList.head? = some 48)
def numOf (z : Str) : V := if okNum z = true then .int ((NumText.digitsVal z.cps.toList : Nat) : Int) else .non
structure NumT (mg : Str → Option Value) : Prop where
  dg : ∃ t, mg "DIGITS" = some (.str "0123456789" t)
  mo : ∃ t, mg "MOST_DIGITS" = some (.int 19 t)
theorem isDg_iff {c : Nat} : isDg c = true ↔ 48 ≤ c ∧ c ≤ 57 := by
  have e : ("0123456789" : Str).cps.toList = [48, 49, 50, 51, 52, 53, 54, 55, 56, 57] := by decide +kernel
  unfold isDg
  rw [e, decide_eq_true_iff]
  simp only [List.mem_cons, List.not_mem_nil, or_false]
  omega
def spNum : Sp := fun vs H Q _ => ∃ (z : Str) (R : Hp → Prop) (N : List (Addr × (HO → Prop))) (L : List (Addr × Obj)), vs = [.str z] ∧ z.length ≤ 100000 ∧ Kn R N L H ∧ ∀ H', Kn R N L H' → Q (numOf z) H'
section
variable {P : Program} {w : World} {K : PySem.W.Frag} {mg : Str → Option Value} {base : Heap}
section
variable {k : Nat} {VL AL : List (Option Str)} {GL : List Str} {E : XK} {X : Cx} {σ : St} {H : Hp} {Q : VK} {pos : Pos} {R : Hp → Prop} {M : List (Addr × (HO → Prop))} {L : List (Addr × Obj)} {a : Addr}
theorem o_inDg {c : Nat} (h : Q (.bl (isDg c)) H) : Wop X (compareOp .In) (.str ⟨#[c]⟩) (.str "0123456789") H Q := ofOp op_in_sign ⟨c, _, rfl, rfl, h⟩
theorem w_DIG (cx : CxI P w K mg base k VL AL GL E X) (T : NumT mg) (hg : In ("DIGITS" : Str) GL) (h : Q (.str "0123456789") H) : We X (.Name "DIGITS" pos) σ H Q := by
  obtain ⟨t, e⟩ := T.dg
  exact w_glob (v := .str "0123456789") cx hg e ⟨t, rfl⟩ h
theorem w_MOST (cx : CxI P w K mg base k VL AL GL E X) (T : NumT mg) (hg : In ("MOST_DIGITS" : Str) GL) (h : Q (.int 19) H) : We X (.Name "MOST_DIGITS" pos) σ H Q := by
  obtain ⟨t, e⟩ := T.mo
  exact w_glob (v := .int 19) cx hg e ⟨t, rfl⟩ h
theorem c_all (cx : CxI P w K mg base k VL AL GL E X) (kn : Kn R M L H) {bs : List Bool} (en : Has a (Is (.lst (bs.map V.bl))) M) (h : Q (.bl (bs.all id)) H) : Wcall X (.builtin "all") [.ref a] H Q := by
  have e3 := cx.eK
  subst e3
  exact ofCall (cr_all cx.calm) ⟨a, bs, rfl, .inl (.inl (kn.is en)), h⟩
theorem c_intS {z : Str} {n : Int} (hn : intText? z = some n) (hl : z.length ≤ 640) (h : Q (.int n) H) : Wcall X (.type "int") [.str z] H Q := ofCall call_int_str ⟨z, n, rfl, hn, hl, h⟩
end
theorem ok_number {fa : Addr} {fd : FuncData} (F : Fun K "number_of" "number_of" s_number_of fa fd) (bl : ∀ x ∈ blts, mg x = none) (T : NumT mg) : Fk P w K mg base 1 fa fd ["text"] spNum := by
  refine fn_okC F sc_number_of nq_number_of ck_number_of bl (fun vs H Q E h => ?_) (fun X H vs Q E cx cn h => ?_)
  · obtain ⟨z, R, N, L, rfl, _⟩ := h
    rfl
  · obtain ⟨z, R, N, L, rfl, hl, kn, k⟩ := h
    have hz : z.length ≤ sizeLine := Nat.le_trans hl (by decide)
    unfold numOf okNum at k
    change Wss X _ _ [_, _] _
    refine s_if ?_
    repeat walk_at "k"
    repeat walk_at "k"
    refine i_2 (fun h1 => ?_) (fun h1 => ?_)
    · repeat walk_at "k"
      refine i_2 (fun h2 => ?_) (fun h2 => ?_)
      · repeat walk_at "k"
        refine w_lc0 bo_number_of_0 bv_number_of_0 ba_number_of_0 bg_number_of_0 cx cn (by kernel_rfl) ?_
        refine wi_str ?_
        repeat walk_at "k"
        refine ⟨z, rfl, _, _, _, itw_str, fun D i acc H => acc = ((z.cps.toList.take i).map fun c => isDg c).map V.bl ∧ Kn R ((D, Is (.lst acc)) :: N) L H, ⟨_, _, _, kn, fun D H2 kn => ⟨rfl, kn⟩⟩, fun _ _ _ _ _ _ => trivial, ?_, ?_⟩
        · intro D i acc H hi ⟨ha, kn⟩ X cx
          change Wg X _ _ [_, _] _ _
          refine g_name cx (by repeat (first | with_reducible exact SetAt.h | apply SetAt.t)) ?_
          refine ⟨rfl, fun X cx cn => ?_⟩
          repeat walk_at "k"
          refine ⟨_, _, _, kn, ?_, fun H5 kn => ⟨?_, kn⟩⟩
          · subst ha
            rw [List.length_map, List.length_map, List.length_take]
            have q : z.cps.toList.length = z.length := rfl
            omega
          · have q : z.cps.toList[i]? = some (z.cps.getD i 0) := by
              have q' : i < z.cps.size := hi
              simp [q', Array.getD]
            subst ha
            rw [List.take_add_one, q]
            simp
        · intro D acc H ⟨ha, kn⟩
          subst ha
          have e : z.cps.toList.take z.cps.size = z.cps.toList := List.take_of_length_le (Nat.le_refl _)
          rw [e] at kn
          repeat walk_at "k"
          have e2 : (z.cps.toList.map fun c => isDg c).all id = z.cps.toList.all isDg := by rw [List.all_map]; rfl
          rw [e2]
          refine i_b (fun h3 => ?_) (fun h3 => ?_)
          · repeat walk_at "k"
            have z0 : (0 : Int) < (z.cps.toList.length : Int) := by
              have q : z.cps.toList.length = z.length := rfl
              omega
            obtain ⟨c, hc⟩ := atI_lt (xs := z.cps.toList) (Int.le_refl 0) z0
            refine x_str hz hc ?_
            have hc' : z.cps.toList.head? = some c := by
              unfold atI ixN at hc
              rw [if_pos (by decide), if_pos z0] at hc
              have hc2 : z.cps.toList[0]? = some c := hc
              rw [← List.head?_eq_getElem?] at hc2
              exact hc2
            repeat walk_at "k"
            have e4 : ((⟨#[c]⟩ : Str) = "0") ↔ c = 48 := by
              have q : ("0" : Str) = ⟨#[48]⟩ := by decide +kernel
              rw [q]
              simp
            refine i_2 (fun h4 => ?_) (fun h4 => ?_)
            · repeat walk_at "k"
              rw [e4] at h4
              rw [hc', h4] at k
              simp only [decide_true, Bool.not_true, Bool.and_false, Bool.false_eq_true, if_false] at k
              exact k _ kn.drop1
            · repeat walk_at "k"
              rw [e4] at h4
              have ok : (decide (1 ≤ z.length) && decide (z.length ≤ 19) && z.cps.toList.all isDg && !decide (z.cps.toList.head? = some 48)) = true := by
                have a1 : 1 ≤ z.length := by omega
                have a2 : z.length ≤ 19 := by omega
                rw [hc', h3]
                simp [a1, a2, h4]
              rw [ok, if_pos rfl] at k
              refine c_intS (PySem.intText_digits (x := z) (fun c hc => ?_) ?_ ?_) ?_ (k _ kn.drop1)
              · exact isDg_iff.mp (List.all_eq_true.mp h3 c hc)
              · intro q
                rw [q] at hc'
                cases hc'
              · omega
              · omega
          · repeat walk_at "k"
            rw [h3] at k
            simp only [Bool.and_false, Bool.false_and, Bool.false_eq_true, if_false] at k
            exact k _ kn.drop1
      · repeat walk_at "k"
        have a2 : ¬ z.length ≤ 19 := by omega
        simp only [a2, decide_false, Bool.and_false, Bool.false_and, Bool.false_eq_true, if_false] at k
        exact k _ kn
    · repeat walk_at "k"
      have a1 : ¬ 1 ≤ z.length := by omega
      simp only [a1, decide_false, Bool.false_and, Bool.false_eq_true, if_false] at k
      exact k _ kn
end

end
end U

namespace U
section
open PySem PySem.Spec L2
open PySem.W (findIn isFn mroIn Looks InstAt)
open PyProof.Rows hiding St
set_option hygiene false
local macro_rules | `(tactic| walk_at "k") => `(tactic| first
  | (with_reducible refine ck_e ?_; first
    | with_reducible refine w_SIGNS cx T (by repeat (first | with_reducible exact In.h | apply In.t)) ?_
    | with_reducible refine w_Frame cx T (by repeat (first | with_reducible exact In.h | apply In.t)) ?_
    | with_reducible refine w_call cx (by repeat (first | with_reducible exact In.h | apply In.t)) D1 (by kernel_rfl) ?_
    | with_reducible refine w_make cx (by repeat (first | with_reducible exact In.h | apply In.t)) DF (by kernel_rfl) ?_
    | with_reducible refine w_var cx (by repeat (first | with_reducible exact SlotIs.h | apply SlotIs.t)) ?_
    | with_reducible refine w_int ?_
    | with_reducible refine w_bin ?_
    | with_reducible refine w_ix ?_
    | with_reducible refine w_cmp ?_
    | with_reducible refine w_str ?_
    | with_reducible refine w_tupK ?_
    | with_reducible refine w_lstK ?_
    | with_reducible refine w_len cx (by repeat (first | with_reducible exact In.h | apply In.t)) ?_
    | with_reducible refine w_max cx (by repeat (first | with_reducible exact In.h | apply In.t)) ?_
    | with_reducible refine w_min cx (by repeat (first | with_reducible exact In.h | apply In.t)) ?_
    | with_reducible refine w_abs cx (by repeat (first | with_reducible exact In.h | apply In.t)) ?_
    | with_reducible refine w_repr cx (by repeat (first | with_reducible exact In.h | apply In.t)) ?_
    | with_reducible refine w_isinstance cx (by repeat (first | with_reducible exact In.h | apply In.t)) ?_
    | with_reducible refine w_sorted cx (by repeat (first | with_reducible exact In.h | apply In.t)) ?_
    | with_reducible refine w_all cx (by repeat (first | with_reducible exact In.h | apply In.t)) ?_
    | with_reducible refine w_any cx (by repeat (first | with_reducible exact In.h | apply In.t)) ?_
    | with_reducible refine w_sum cx (by repeat (first | with_reducible exact In.h | apply In.t)) ?_
    | with_reducible refine w_intT cx (by repeat (first | with_reducible exact In.h | apply In.t)) ?_
    | with_reducible refine w_strT cx (by repeat (first | with_reducible exact In.h | apply In.t)) ?_
    | with_reducible refine w_tupleT cx (by repeat (first | with_reducible exact In.h | apply In.t)) ?_
    | with_reducible refine w_listT cx (by repeat (first | with_reducible exact In.h | apply In.t)) ?_
    | with_reducible refine w_dictT cx (by repeat (first | with_reducible exact In.h | apply In.t)) ?_
    | with_reducible refine w_boolT cx (by repeat (first | with_reducible exact In.h | apply In.t)) ?_
    | with_reducible refine w_attr ?_
    | with_reducible refine w_un ?_
    | with_reducible refine w_chain ?_
    | with_reducible refine w_and ?_
    | with_reducible refine w_or ?_
    | with_reducible refine w_bool1 ?_
    | with_reducible refine w_not ?_
    | with_reducible refine w_if ?_
    | with_reducible refine w_bl ?_
    | with_reducible refine w_non ?_
    | with_reducible refine w_joined ?_
    | with_reducible refine w_joined1 ?_
    | with_reducible refine w_fmt ?_)
  | (with_reducible refine ck_a ?_; first
    | with_reducible refine wa_cons ?_
    | with_reducible refine wa_nil ?_)
  | (with_reducible refine ck_s ?_; first
    | with_reducible refine s_fld cx T.cl T.n1 ?_
    | with_reducible refine s_fld cx T.cl T.n2 ?_
    | with_reducible refine s_fld cx T.cl T.n3 ?_
    | with_reducible refine s_fld cx T.cl T.n4 ?_
    | with_reducible refine s_fld cx T.cl T.n5 ?_
    | with_reducible refine s_set cx ?_
    | with_reducible refine s_if ?_
    | with_reducible refine s_ret ?_
    | with_reducible refine s_nil ?_
    | with_reducible refine s_expr ?_
    | with_reducible refine s_asg ?_
    | with_reducible refine s_pass ?_
    | with_reducible refine s_break ?_
    | with_reducible refine s_cont ?_
    | with_reducible refine s_retN ?_)
  | (with_reducible refine ck_o ?_; first
    | with_reducible refine o_ninSg cx T ?_
    | with_reducible refine o_addSn (by repeat (first | with_reducible exact l_emp | with_reducible exact l_en | with_reducible exact l_sp | with_reducible assumption | with_reducible exact l_frt (by first | with_reducible assumption | exact log_ok (by omega)) | with_reducible exact l_int (by first | with_reducible assumption | exact log_ok (by omega)) | with_reducible apply l_app | with_reducible exact Nat.le_refl _)) (by repeat (first | with_reducible exact l_emp | with_reducible exact l_en | with_reducible exact l_sp | with_reducible assumption | with_reducible exact l_frt (by first | with_reducible assumption | exact log_ok (by omega)) | with_reducible exact l_int (by first | with_reducible assumption | exact log_ok (by omega)) | with_reducible apply l_app | with_reducible exact Nat.le_refl _)) (by kernel_rfl) ?_
    | with_reducible refine o_add ?_
    | with_reducible refine o_sub ?_
    | with_reducible refine o_lt ?_
    | with_reducible refine o_le ?_
    | with_reducible refine o_gt ?_
    | with_reducible refine o_ge ?_
    | with_reducible refine o_eqI ?_
    | with_reducible refine o_neI ?_
    | with_reducible refine o_eqS ?_
    | with_reducible refine o_neS ?_
    | with_reducible refine o_neB ?_
    | with_reducible refine o_eqB ?_
    | with_reducible refine o_isN ?_
    | with_reducible refine o_notN ?_
    | with_reducible refine o_mod (by omega) ?_
    | with_reducible refine o_mulL (by omega) ?_
    | with_reducible refine o_mulR (by omega) ?_
    | with_reducible refine o_fdiv (by omega) ?_
    | with_reducible refine o_pow (by simp only [Int.reduceToNat, Int.reducePow]; first | done | rfl) (by omega) (by decide +kernel) ?_
    | with_reducible refine o_neL0 cx (by with_reducible assumption) (by repeat (first | with_reducible assumption | with_reducible exact Has.h | apply Has.t)) (by repeat (first | with_reducible assumption | with_reducible exact Has.h | apply Has.t)) ?_
    | with_reducible refine o_fdivB (by omega) ?_)
  | (with_reducible refine ck_c ?_; first
    | with_reducible refine c_strI (by first | with_reducible assumption | exact log_ok (by omega)) ?_
    | with_reducible refine c_reprI (by first | with_reducible assumption | exact log_ok (by omega)) ?_
    | with_reducible refine c_lenS (Nat.le_trans (by repeat (first | with_reducible exact l_emp | with_reducible exact l_en | with_reducible exact l_sp | with_reducible assumption | with_reducible exact l_frt (by first | with_reducible assumption | exact log_ok (by omega)) | with_reducible exact l_int (by first | with_reducible assumption | exact log_ok (by omega)) | with_reducible apply l_app | with_reducible exact Nat.le_refl _)) (Nat.le_of_ble_eq_true (by kernel_rfl))) ?_
    | with_reducible refine c_max cx ?_
    | with_reducible refine c_min cx ?_
    | with_reducible refine c_abs ?_
    | with_reducible refine c_intI ?_
    | with_reducible refine c_intB ?_
    | with_reducible refine c_strS ?_
    | with_reducible refine c_lenT (by with_reducible assumption) (by repeat (first | with_reducible assumption | with_reducible exact Ent.h | apply Ent.t)) ?_
    | with_reducible refine c_lenL (by with_reducible assumption) (by repeat (first | with_reducible assumption | with_reducible exact Has.h | apply Has.t)) ?_
    | with_reducible refine c_lenX (by with_reducible assumption) (by repeat (first | with_reducible assumption | with_reducible exact Ent.h | apply Ent.t)) ?_
    | with_reducible refine c_lenQ cx (by with_reducible assumption) (by repeat (first | with_reducible assumption | with_reducible exact Ent.h | apply Ent.t)) ?_)
  | (with_reducible refine ck_x ?_; first
    | with_reducible refine x_Sg cx T ?_
    | with_reducible refine x_tup (by with_reducible assumption) (by repeat (first | with_reducible assumption | with_reducible exact Ent.h | apply Ent.t)) (by first | with_reducible exact at0 | with_reducible exact at1 | with_reducible exact at2) ?_
    | with_reducible refine x_lst (by with_reducible assumption) (by repeat (first | with_reducible assumption | with_reducible exact Has.h | apply Has.t)) (by first | with_reducible exact at0 | with_reducible exact at1 | with_reducible exact at2) ?_
    | with_reducible refine x_lstX (by with_reducible assumption) (by repeat (first | with_reducible assumption | with_reducible exact Ent.h | apply Ent.t)) (by first | with_reducible exact at0 | with_reducible exact at1 | with_reducible exact at2) ?_)
  | (with_reducible refine ck_at ?_; first
    | with_reducible refine at_most cx T ?_
    | with_reducible refine at_pieces cx T (by with_reducible assumption) (by repeat (first | with_reducible assumption | with_reducible exact Ent.h | apply Ent.t)) ?_
    | with_reducible refine at_front cx T (by with_reducible assumption) (by repeat (first | with_reducible assumption | with_reducible exact Ent.h | apply Ent.t)) ?_
    | with_reducible refine at_back cx T (by with_reducible assumption) (by repeat (first | with_reducible assumption | with_reducible exact Ent.h | apply Ent.t)) ?_
    | with_reducible refine at_fs cx T (by with_reducible assumption) (by repeat (first | with_reducible assumption | with_reducible exact Ent.h | apply Ent.t)) ?_
    | with_reducible refine at_bs cx T (by with_reducible assumption) (by repeat (first | with_reducible assumption | with_reducible exact Ent.h | apply Ent.t)) ?_)
  | (with_reducible refine ck_t ?_; first
    | with_reducible refine t_cmp ?_
    | with_reducible refine t_chain ?_
    | with_reducible refine t_not ?_
    | with_reducible refine t_and ?_
    | with_reducible refine t_or ?_
    | with_reducible refine t_val ?_)
  | (with_reducible refine ck_w ?_; first
    | with_reducible refine ww_and ?_
    | with_reducible refine ww_or ?_
    | with_reducible refine ww_and1 ?_
    | with_reducible refine ww_or1 ?_)
  | (with_reducible refine ck_p ?_; first
    | with_reducible refine p_l0 (by with_reducible assumption) (by repeat (first | with_reducible assumption | with_reducible exact Put.h | apply Put.t)) ?_
    | with_reducible refine p_l1 (by with_reducible assumption) (by repeat (first | with_reducible assumption | with_reducible exact Put.h | apply Put.t)) ?_
    | with_reducible refine p_l2 (by with_reducible assumption) (by repeat (first | with_reducible assumption | with_reducible exact Put.h | apply Put.t)) ?_)
  | (with_reducible refine ck_f ?_; first
    | with_reducible refine f_str (Nat.le_trans (by repeat (first | with_reducible exact l_emp | with_reducible exact l_en | with_reducible exact l_sp | with_reducible assumption | with_reducible exact l_frt (by first | with_reducible assumption | exact log_ok (by omega)) | with_reducible exact l_int (by first | with_reducible assumption | exact log_ok (by omega)) | with_reducible apply l_app | with_reducible exact Nat.le_refl _)) (Nat.le_of_ble_eq_true (by kernel_rfl))) ?_
    | with_reducible refine f_int (by first | with_reducible assumption | exact log_ok (by omega)) ?_)
  | (with_reducible refine ck_j ?_; first
    | with_reducible refine wj_nil ?_
    | with_reducible refine wj_cons ?_)
  | (with_reducible refine ck_g ?_; first
    | with_reducible refine g_name cx (by repeat (first | with_reducible exact SetAt.h | apply SetAt.t)) ?_
    | with_reducible refine g_sub ?_)
  | with_reducible refine k_Frame (by with_reducible assumption) (by omega) (by omega) (fun p H kn => ?_)
  | with_reducible refine k_sj (by repeat (first | with_reducible exact l_emp | with_reducible exact l_en | with_reducible exact l_sp | with_reducible assumption | with_reducible exact l_frt (by first | with_reducible assumption | exact log_ok (by omega)) | with_reducible exact l_int (by first | with_reducible assumption | exact log_ok (by omega)) | with_reducible apply l_app | with_reducible exact Nat.le_refl _)) (by kernel_rfl) ?_
  | with_reducible refine k_set (by repeat (first | with_reducible exact SetAt.h | apply SetAt.t)) ?_
  | with_reducible refine k_bl ?_
  | with_reducible refine iteT ?_
  | with_reducible refine iteF ?_
  | with_reducible refine i_not ?_
  | with_reducible refine i_t (by with_reducible rfl) ?_
  | with_reducible refine i_t ⟨rfl, rfl, rfl⟩ ?_
  | with_reducible refine i_t (by with_reducible assumption) ?_
  | with_reducible refine i_f (by with_reducible assumption) ?_
  | with_reducible refine i_t (by omega) ?_
  | with_reducible refine i_f (by omega) ?_
  | with_reducible refine i_t (by simp only [List.length_cons, List.length_nil]; omega) ?_
  | with_reducible refine i_f (by simp only [List.length_cons, List.length_nil]; omega) ?_
  | with_reducible refine o_neg ?_
  | with_reducible refine k_sfld (by with_reducible assumption) (by repeat (first | with_reducible assumption | with_reducible exact Put.h | apply Put.t)) (by repeat (first | with_reducible exact FL.z | apply FL.s)) (by with_unfolding_all rfl) ?_
  | with_reducible refine gs_nil ?_
  | with_reducible refine gs_cons ?_
  | (with_reducible refine ⟨_, _, _, (by with_reducible assumption), (by with_unfolding_all exact Nat.le_of_ble_eq_true rfl), ?_⟩; intro p H kn)
  | (with_reducible intro H kn))
/-! Frame.parse of a right text -/
def spParse (C : Addr) : Sp := fun vs H Q _ => ∃ (z y : Str) (n : Int) (f b : Bool) (R : Hp → Prop) (N : List (Addr × (HO → Prop))) (L : List (Addr × Obj)), vs = [.ref C, .str z] ∧ z.length ≤ 100000 ∧ y.length ≤ 100000 ∧ Txt.split z " " = [en f, y, en b] ∧ numOf y = .int n ∧ 1 ≤ n ∧ n ≤ 1000000000000000000 ∧ Kn R N L H ∧
  ∀ a H', Kn (Cj (IsFr C a n f b) R) N L H' → Q (.ref a) H'
section
variable {P : Program} {w : World} {K : PySem.W.Frag} {mg : Str → Option Value} {base : Heap} {C d fe fr : Addr}
theorem k_num {z : Str} {R : Hp → Prop} {N : List (Addr × (HO → Prop))} {L : List (Addr × Obj)} {H : Hp} {Q : VK} {E : XK} (kn : Kn R N L H) (hl : z.length ≤ 100000) (h : ∀ H', Kn R N L H' → Q (numOf z) H') : spNum [.str z] H Q E := ⟨z, R, N, L, rfl, hl, kn, h⟩
theorem ok_parse {fa : Addr} {fd : FuncData} (F : Fun K "parse" "Frame.parse" s_Frame_parse fa fd) (bl : ∀ x ∈ blts, mg x = none) (T : FrT K w mg C d) (D1 : Df P w K mg base "number_of" 1 ["text"] spNum) (DF : Cl P w K mg base C "Frame" 1 ["self", "pieces", "front", "back"] (spFrInit C)) :
    Fk P w K mg base 3 fa fd ["cls", "text"] (spParse C) := by
  refine fn_okW F sc_Frame_parse nq_Frame_parse ck_Frame_parse bl (fun vs H Q E h => ?_) (fun X H vs Q E cx h => ?_)
  · obtain ⟨z, y, n, f, b, R, N, L, rfl, _⟩ := h
    rfl
  · obtain ⟨z, y, n, f, b, R, N, L, rfl, hz, hy, hs, hn, n0, n1, kn, k⟩ := h
    have hf := en_is f
    have hb := en_is b
    change Wss X _ _ [_, _, _, _] _
    refine s_set cx ?_
    refine w_split cx ?_
    repeat walk_at "k"
    refine ⟨z, rfl, ?_⟩
    repeat walk_at "k"
    refine ⟨_, _, _, _, rfl, by decide +kernel, by rw [PySem.sizeLine_eq]; omega, kn, fun p H kn => ?_⟩
    rw [hs] at kn
    change Kn R ((p, Is (.lst [.str _, .str _, .str _])) :: N) L H at kn
    repeat walk_at "k"
    refine k_num kn hy fun H kn => ?_
    rw [hn]
    repeat walk_at "k"
    refine i_f (by intro q; cases q) ?_
    repeat walk_at "k"
    refine w_makeL cx (by repeat (first | with_reducible exact SlotIs.h | apply SlotIs.t)) DF (by kernel_rfl) ?_
    repeat walk_at "k"
    exact k _ _ (kn.take .h)
end

end
end U

namespace U
section
open PySem PySem.Spec L2
open PySem.W (findIn isFn mroIn Looks InstAt)
open PyProof.Rows hiding St
set_option hygiene false
local macro_rules | `(tactic| walk_at "k") => `(tactic| first
  | (with_reducible refine ck_e ?_; first
    | with_reducible refine w_SIGNS cx T (by repeat (first | with_reducible exact In.h | apply In.t)) ?_
    | with_reducible refine w_Frame cx T (by repeat (first | with_reducible exact In.h | apply In.t)) ?_
    | with_reducible refine w_call cx (by repeat (first | with_reducible exact In.h | apply In.t)) D1 (by kernel_rfl) ?_
    | with_reducible refine w_make cx (by repeat (first | with_reducible exact In.h | apply In.t)) DF (by kernel_rfl) ?_
    | with_reducible refine w_meth cx T.cl MP (by kernel_rfl) ?_
    | with_reducible refine w_meth cx T.cl MS (by kernel_rfl) ?_
    | with_reducible refine w_var cx (by repeat (first | with_reducible exact SlotIs.h | apply SlotIs.t)) ?_
    | with_reducible refine w_int ?_
    | with_reducible refine w_bin ?_
    | with_reducible refine w_ix ?_
    | with_reducible refine w_cmp ?_
    | with_reducible refine w_str ?_
    | with_reducible refine w_tupK ?_
    | with_reducible refine w_lstK ?_
    | with_reducible refine w_len cx (by repeat (first | with_reducible exact In.h | apply In.t)) ?_
    | with_reducible refine w_max cx (by repeat (first | with_reducible exact In.h | apply In.t)) ?_
    | with_reducible refine w_min cx (by repeat (first | with_reducible exact In.h | apply In.t)) ?_
    | with_reducible refine w_abs cx (by repeat (first | with_reducible exact In.h | apply In.t)) ?_
    | with_reducible refine w_repr cx (by repeat (first | with_reducible exact In.h | apply In.t)) ?_
    | with_reducible refine w_isinstance cx (by repeat (first | with_reducible exact In.h | apply In.t)) ?_
    | with_reducible refine w_sorted cx (by repeat (first | with_reducible exact In.h | apply In.t)) ?_
    | with_reducible refine w_all cx (by repeat (first | with_reducible exact In.h | apply In.t)) ?_
    | with_reducible refine w_any cx (by repeat (first | with_reducible exact In.h | apply In.t)) ?_
    | with_reducible refine w_sum cx (by repeat (first | with_reducible exact In.h | apply In.t)) ?_
    | with_reducible refine w_intT cx (by repeat (first | with_reducible exact In.h | apply In.t)) ?_
    | with_reducible refine w_strT cx (by repeat (first | with_reducible exact In.h | apply In.t)) ?_
    | with_reducible refine w_tupleT cx (by repeat (first | with_reducible exact In.h | apply In.t)) ?_
    | with_reducible refine w_listT cx (by repeat (first | with_reducible exact In.h | apply In.t)) ?_
    | with_reducible refine w_dictT cx (by repeat (first | with_reducible exact In.h | apply In.t)) ?_
    | with_reducible refine w_boolT cx (by repeat (first | with_reducible exact In.h | apply In.t)) ?_
    | with_reducible refine w_attr ?_
    | with_reducible refine w_un ?_
    | with_reducible refine w_chain ?_
    | with_reducible refine w_and ?_
    | with_reducible refine w_or ?_
    | with_reducible refine w_bool1 ?_
    | with_reducible refine w_not ?_
    | with_reducible refine w_if ?_
    | with_reducible refine w_bl ?_
    | with_reducible refine w_non ?_
    | with_reducible refine w_joined ?_
    | with_reducible refine w_joined1 ?_
    | with_reducible refine w_fmt ?_)
  | (with_reducible refine ck_a ?_; first
    | with_reducible refine wa_cons ?_
    | with_reducible refine wa_nil ?_)
  | (with_reducible refine ck_s ?_; first
    | with_reducible refine s_fld cx T.cl T.n1 ?_
    | with_reducible refine s_fld cx T.cl T.n2 ?_
    | with_reducible refine s_fld cx T.cl T.n3 ?_
    | with_reducible refine s_fld cx T.cl T.n4 ?_
    | with_reducible refine s_fld cx T.cl T.n5 ?_
    | with_reducible refine s_set cx ?_
    | with_reducible refine s_if ?_
    | with_reducible refine s_ret ?_
    | with_reducible refine s_nil ?_
    | with_reducible refine s_expr ?_
    | with_reducible refine s_asg ?_
    | with_reducible refine s_pass ?_
    | with_reducible refine s_break ?_
    | with_reducible refine s_cont ?_
    | with_reducible refine s_retN ?_)
  | (with_reducible refine ck_o ?_; first
    | with_reducible refine o_ninSg cx T ?_
    | with_reducible refine o_addSn (by repeat (first | with_reducible exact l_emp | with_reducible exact l_en | with_reducible exact l_sp | with_reducible assumption | with_reducible exact l_frt (by first | with_reducible assumption | exact log_ok (by omega)) | with_reducible exact l_int (by first | with_reducible assumption | exact log_ok (by omega)) | with_reducible apply l_app | with_reducible exact Nat.le_refl _)) (by repeat (first | with_reducible exact l_emp | with_reducible exact l_en | with_reducible exact l_sp | with_reducible assumption | with_reducible exact l_frt (by first | with_reducible assumption | exact log_ok (by omega)) | with_reducible exact l_int (by first | with_reducible assumption | exact log_ok (by omega)) | with_reducible apply l_app | with_reducible exact Nat.le_refl _)) (by kernel_rfl) ?_
    | with_reducible refine o_add ?_
    | with_reducible refine o_sub ?_
    | with_reducible refine o_lt ?_
    | with_reducible refine o_le ?_
    | with_reducible refine o_gt ?_
    | with_reducible refine o_ge ?_
    | with_reducible refine o_eqI ?_
    | with_reducible refine o_neI ?_
    | with_reducible refine o_eqS ?_
    | with_reducible refine o_neS ?_
    | with_reducible refine o_neB ?_
    | with_reducible refine o_eqB ?_
    | with_reducible refine o_isN ?_
    | with_reducible refine o_notN ?_
    | with_reducible refine o_mod (by omega) ?_
    | with_reducible refine o_mulL (by omega) ?_
    | with_reducible refine o_mulR (by omega) ?_
    | with_reducible refine o_fdiv (by omega) ?_
    | with_reducible refine o_pow (by simp only [Int.reduceToNat, Int.reducePow]; first | done | rfl) (by omega) (by decide +kernel) ?_
    | with_reducible refine o_neL0 cx (by with_reducible assumption) (by repeat (first | with_reducible assumption | with_reducible exact Has.h | apply Has.t)) (by repeat (first | with_reducible assumption | with_reducible exact Has.h | apply Has.t)) ?_
    | with_reducible refine o_fdivB (by omega) ?_)
  | (with_reducible refine ck_c ?_; first
    | with_reducible refine c_strI (by first | with_reducible assumption | exact log_ok (by omega)) ?_
    | with_reducible refine c_reprI (by first | with_reducible assumption | exact log_ok (by omega)) ?_
    | with_reducible refine c_lenS (Nat.le_trans (by repeat (first | with_reducible exact l_emp | with_reducible exact l_en | with_reducible exact l_sp | with_reducible assumption | with_reducible exact l_frt (by first | with_reducible assumption | exact log_ok (by omega)) | with_reducible exact l_int (by first | with_reducible assumption | exact log_ok (by omega)) | with_reducible apply l_app | with_reducible exact Nat.le_refl _)) (Nat.le_of_ble_eq_true (by kernel_rfl))) ?_
    | with_reducible refine c_max cx ?_
    | with_reducible refine c_min cx ?_
    | with_reducible refine c_abs ?_
    | with_reducible refine c_intI ?_
    | with_reducible refine c_intB ?_
    | with_reducible refine c_strS ?_
    | with_reducible refine c_lenT (by with_reducible assumption) (by repeat (first | with_reducible assumption | with_reducible exact Ent.h | apply Ent.t)) ?_
    | with_reducible refine c_lenL (by with_reducible assumption) (by repeat (first | with_reducible assumption | with_reducible exact Has.h | apply Has.t)) ?_
    | with_reducible refine c_lenX (by with_reducible assumption) (by repeat (first | with_reducible assumption | with_reducible exact Ent.h | apply Ent.t)) ?_
    | with_reducible refine c_lenQ cx (by with_reducible assumption) (by repeat (first | with_reducible assumption | with_reducible exact Ent.h | apply Ent.t)) ?_)
  | (with_reducible refine ck_x ?_; first
    | with_reducible refine x_Sg cx T ?_
    | with_reducible refine x_tup (by with_reducible assumption) (by repeat (first | with_reducible assumption | with_reducible exact Ent.h | apply Ent.t)) (by first | with_reducible exact at0 | with_reducible exact at1 | with_reducible exact at2) ?_
    | with_reducible refine x_lst (by with_reducible assumption) (by repeat (first | with_reducible assumption | with_reducible exact Has.h | apply Has.t)) (by first | with_reducible exact at0 | with_reducible exact at1 | with_reducible exact at2) ?_
    | with_reducible refine x_lstX (by with_reducible assumption) (by repeat (first | with_reducible assumption | with_reducible exact Ent.h | apply Ent.t)) (by first | with_reducible exact at0 | with_reducible exact at1 | with_reducible exact at2) ?_)
  | (with_reducible refine ck_at ?_; first
    | with_reducible refine at_most cx T ?_
    | with_reducible refine at_pieces cx T (by with_reducible assumption) (by repeat (first | with_reducible assumption | with_reducible exact Ent.h | apply Ent.t)) ?_
    | with_reducible refine at_front cx T (by with_reducible assumption) (by repeat (first | with_reducible assumption | with_reducible exact Ent.h | apply Ent.t)) ?_
    | with_reducible refine at_back cx T (by with_reducible assumption) (by repeat (first | with_reducible assumption | with_reducible exact Ent.h | apply Ent.t)) ?_
    | with_reducible refine at_fs cx T (by with_reducible assumption) (by repeat (first | with_reducible assumption | with_reducible exact Ent.h | apply Ent.t)) ?_
    | with_reducible refine at_bs cx T (by with_reducible assumption) (by repeat (first | with_reducible assumption | with_reducible exact Ent.h | apply Ent.t)) ?_)
  | (with_reducible refine ck_t ?_; first
    | with_reducible refine t_cmp ?_
    | with_reducible refine t_chain ?_
    | with_reducible refine t_not ?_
    | with_reducible refine t_and ?_
    | with_reducible refine t_or ?_
    | with_reducible refine t_val ?_)
  | (with_reducible refine ck_w ?_; first
    | with_reducible refine ww_and ?_
    | with_reducible refine ww_or ?_
    | with_reducible refine ww_and1 ?_
    | with_reducible refine ww_or1 ?_)
  | (with_reducible refine ck_p ?_; first
    | with_reducible refine p_l0 (by with_reducible assumption) (by repeat (first | with_reducible assumption | with_reducible exact Put.h | apply Put.t)) ?_
    | with_reducible refine p_l1 (by with_reducible assumption) (by repeat (first | with_reducible assumption | with_reducible exact Put.h | apply Put.t)) ?_
    | with_reducible refine p_l2 (by with_reducible assumption) (by repeat (first | with_reducible assumption | with_reducible exact Put.h | apply Put.t)) ?_)
  | (with_reducible refine ck_f ?_; first
    | with_reducible refine f_str (Nat.le_trans (by repeat (first | with_reducible exact l_emp | with_reducible exact l_en | with_reducible exact l_sp | with_reducible assumption | with_reducible exact l_frt (by first | with_reducible assumption | exact log_ok (by omega)) | with_reducible exact l_int (by first | with_reducible assumption | exact log_ok (by omega)) | with_reducible apply l_app | with_reducible exact Nat.le_refl _)) (Nat.le_of_ble_eq_true (by kernel_rfl))) ?_
    | with_reducible refine f_int (by first | with_reducible assumption | exact log_ok (by omega)) ?_)
  | (with_reducible refine ck_j ?_; first
    | with_reducible refine wj_nil ?_
    | with_reducible refine wj_cons ?_)
  | (with_reducible refine ck_g ?_; first
    | with_reducible refine g_name cx (by repeat (first | with_reducible exact SetAt.h | apply SetAt.t)) ?_
    | with_reducible refine g_sub ?_)
  | with_reducible refine k_Frame (by with_reducible assumption) (by omega) (by omega) (fun p H kn => ?_)
  | with_reducible refine k_recv (by with_reducible assumption) (by repeat (first | with_reducible assumption | with_reducible exact Ent.h | apply Ent.t)) (by kernel_rfl) ?_
  | with_reducible refine k_pulse_at (by with_reducible assumption) (by repeat (first | with_reducible assumption | with_reducible exact Ent.h | apply Ent.t)) (fun p H kn => ?_)
  | with_reducible refine k_sj (by repeat (first | with_reducible exact l_emp | with_reducible exact l_en | with_reducible exact l_sp | with_reducible assumption | with_reducible exact l_frt (by first | with_reducible assumption | exact log_ok (by omega)) | with_reducible exact l_int (by first | with_reducible assumption | exact log_ok (by omega)) | with_reducible apply l_app | with_reducible exact Nat.le_refl _)) (by kernel_rfl) ?_
  | with_reducible refine k_set (by repeat (first | with_reducible exact SetAt.h | apply SetAt.t)) ?_
  | with_reducible refine k_bl ?_
  | with_reducible refine iteT ?_
  | with_reducible refine iteF ?_
  | with_reducible refine i_not ?_
  | with_reducible refine i_t (by with_reducible rfl) ?_
  | with_reducible refine i_t ⟨rfl, rfl, rfl⟩ ?_
  | with_reducible refine i_t (by with_reducible assumption) ?_
  | with_reducible refine i_f (by with_reducible assumption) ?_
  | with_reducible refine i_t (by omega) ?_
  | with_reducible refine i_f (by omega) ?_
  | with_reducible refine i_t (by simp only [List.length_cons, List.length_nil]; omega) ?_
  | with_reducible refine i_f (by simp only [List.length_cons, List.length_nil]; omega) ?_
  | with_reducible refine o_neg ?_
  | with_reducible refine k_sfld (by with_reducible assumption) (by repeat (first | with_reducible assumption | with_reducible exact Put.h | apply Put.t)) (by repeat (first | with_reducible exact FL.z | apply FL.s)) (by with_unfolding_all rfl) ?_
  | with_reducible refine gs_nil ?_
  | with_reducible refine gs_cons ?_
  | (with_reducible refine ⟨_, _, _, (by with_reducible assumption), (by with_unfolding_all exact Nat.le_of_ble_eq_true rfl), ?_⟩; intro p H kn)
  | (with_reducible intro H kn))
/-! k02: slots_right -/
def spSlots (C : Addr) : Sp := fun vs H Q _ => ∃ (a : Addr) (n s : Int) (f b : Bool) (R : Hp → Prop) (N : List (Addr × (HO → Prop))) (L : List (Addr × Obj)), vs = [.ref a, .int n, .int s] ∧ 1 ≤ n ∧ n ≤ 1000000000000000000 ∧ 0 ≤ s ∧ s < 2 * n ∧ Ent R (IsFr C a n f b) ∧ Kn R N L H ∧ ∀ H', Kn R N L H' → Q (.bl true) H'
section
variable {P : Program} {w : World} {K : PySem.W.Frag} {mg : Str → Option Value} {base : Heap} {C d fe fr : Addr}
section
variable {k : Nat} {VL AL : List (Option Str)} {GL : List Str} {E : XK} {X : Cx} {σ : St} {H : Hp} {Q : VK} {R : Hp → Prop} {N : List (Addr × (HO → Prop))} {L : List (Addr × Obj)} {a : Addr} {n s : Int} {f b : Bool}
/-- repr of a pulse -/
theorem c_reprP (cx : CxI P w K mg base k VL AL GL E X) (kn : Kn R N L H) {i : Int} {x : Str} (e : Ent R (Ex a (.tup [.int i, .str x]))) (hx : x = ">" ∨ x = "<") (hi : i.natAbs.log2 < 1920) (h : Q (.str (PyData.shown (.tuple [.int i, .str x]))) H) : Wcall X (.builtin "repr") [.ref a] H Q := by
  refine c_reprD cx (d_tup kn e (.cons (.int i) (.cons (.str x) .nil))) ?_ rfl (by show 1 ≤ 100; decide) ?_ h
  · simp [PyData.showable, PyData.showableAll, hi]
  · have e1 := PyProof.Rows.int_text_len_1921 hi
    have e2 : (reprText x).length ≤ 3 := by rcases hx with rfl | rfl <;> decide +kernel
    have e3 := tupleText_len_le [Str.ofString (toString i), reprText x]
    show (tupleText [Str.ofString (toString i), reprText x]).length ≤ sizeLine
    rw [PySem.sizeLine_eq]
    simp only [List.map_cons, List.map_nil, List.sum_cons, List.sum_nil, List.length_cons, List.length_nil] at e3
    omega
theorem k_pulse_at (kn : Kn R N L H) (e : Ent R (IsFr C a n f b)) (h : ∀ p H', Kn (Cj (Ex p (.tup [.int (pieceOf n s), .str (dirOf n s)])) R) N L H' → Q (.ref p) H') : spPulseAt C [.ref a, .int s] H Q E := ⟨a, n, s, f, b, R, N, L, rfl, e, kn, h⟩
theorem k_slot_of (fwd : Bool) (kn : Kn R N L H) (e : Ent R (IsFr C a n f b)) {z : Str} (hz : z = dS fwd) (h : ∀ H', Kn R N L H' → Q (.int (if fwd = true then s else 2 * n - 1 - s)) H') : spSlotOf C [.ref a, .int s, .str z] H Q E := ⟨a, n, s, f, b, fwd, R, N, L, by rw [hz], e, kn, h⟩
/-- a method's receiver that is a known frame -/
theorem k_recv {m : Str} (kn : Kn R N L H) (e : Ent R (IsFr C a n f b)) (hm : (m == ("back_sign" : Str) || m == ("front_sign" : Str) || m == ("back" : Str) || m == ("front" : Str) || m == ("pieces" : Str)) = false) {B : Prop} (h : B) :
    ∃ a' dx fs, V.ref a = .ref a' ∧ H a' = some (.ins C dx fs) ∧ fs.lookup m = none ∧ B := by
  obtain ⟨dx, z⟩ := kn.get e
  exact ⟨a, dx, _, rfl, z, fr_no hm, h⟩
end
theorem ok_slots_right {fa : Addr} {fd : FuncData} (F : Fun K "_law_slots_right" "_law_slots_right" s_slots_right fa fd) (bl : ∀ x ∈ blts, mg x = none) (T : FrT K w mg C d) (MP : Mt P w K mg base C "pulse_at" 1 ["self", "slot"] (spPulseAt C)) (MS : Mt P w K mg base C "slot_of" 1 ["self", "piece", "direction"] (spSlotOf C)) :
    Fk P w K mg base 2 fa fd ["_law_frame_here", "_law_pieces", "_law_slot"] (spSlots C) := by
  refine fn_okW F sc_slots_right nq_slots_right ck_slots_right bl (fun vs H Q E h => ?_) (fun X H vs Q E cx h => ?_)
  · obtain ⟨a, n, s, f, b, R, N, L, rfl, _⟩ := h
    rfl
  · obtain ⟨a, n, s, f, b, R, N, L, rfl, n0, n1, s0, s1, e, kn, k⟩ := h
    change Wss X _ _ [_, _, _, _] _
    refine s_if ?_
    repeat walk_at "k"
    have hi : (pieceOf n s).natAbs.log2 < 1920 := log_ok (by unfold pieceOf; split <;> omega)
    have hx : dirOf n s = ">" ∨ dirOf n s = "<" := by unfold dirOf; split <;> simp
    refine i_2 (fun hs => ?_) (fun hs => ?_)
    · repeat walk_at "k"
      have e1 : pieceOf n s = s := by unfold pieceOf; rw [if_pos hs]
      have e2 : dirOf n s = ">" := by unfold dirOf; rw [if_pos hs]
      refine c_reprP cx kn .h hx hi ?_
      repeat walk_at "k"
      rw [e1] at hi
      refine c_reprP cx kn (.t .h) (.inl rfl) hi ?_
      rw [e1, e2]
      repeat walk_at "k"
      repeat walk_at "k"
      refine k_slot_of true kn (.t (.t e)) rfl fun H kn => ?_
      rw [if_pos rfl]
      repeat walk_at "k"
      rw [decide_eq_true (rfl : s = s)]
      exact k _ (kn.weak (.t (.t .r)))
    · repeat walk_at "k"
      have e1 : pieceOf n s = n - 1 - (s - n) := by unfold pieceOf; rw [if_neg hs]; omega
      have e2 : dirOf n s = "<" := by unfold dirOf; rw [if_neg hs]
      refine c_reprP cx kn .h hx hi ?_
      repeat walk_at "k"
      rw [e1] at hi
      refine c_reprP cx kn (.t .h) (.inr rfl) hi ?_
      rw [e1, e2]
      repeat walk_at "k"
      repeat walk_at "k"
      refine k_slot_of false kn (.t (.t e)) rfl fun H kn => ?_
      rw [if_neg Bool.false_ne_true]
      repeat walk_at "k"
      rw [decide_eq_true (by omega : 2 * n - 1 - (n - 1 - (s - n)) = s)]
      exact k _ (kn.weak (.t (.t .r)))
end

end
end U

namespace U
section
open PySem PySem.Spec L2
open PySem.W (findIn isFn mroIn Looks InstAt)
open PyProof.Rows hiding St
set_option hygiene false
local macro_rules | `(tactic| walk_at "k") => `(tactic| first
  | (with_reducible refine ck_e ?_; first
    | with_reducible refine w_var cx (by repeat (first | with_reducible exact SlotIs.h | apply SlotIs.t)) ?_
    | with_reducible refine w_int ?_
    | with_reducible refine w_bin ?_
    | with_reducible refine w_ix ?_
    | with_reducible refine w_cmp ?_
    | with_reducible refine w_str ?_
    | with_reducible refine w_tupK ?_
    | with_reducible refine w_lstK ?_
    | with_reducible refine w_len cx (by repeat (first | with_reducible exact In.h | apply In.t)) ?_
    | with_reducible refine w_max cx (by repeat (first | with_reducible exact In.h | apply In.t)) ?_
    | with_reducible refine w_min cx (by repeat (first | with_reducible exact In.h | apply In.t)) ?_
    | with_reducible refine w_abs cx (by repeat (first | with_reducible exact In.h | apply In.t)) ?_
    | with_reducible refine w_repr cx (by repeat (first | with_reducible exact In.h | apply In.t)) ?_
    | with_reducible refine w_isinstance cx (by repeat (first | with_reducible exact In.h | apply In.t)) ?_
    | with_reducible refine w_sorted cx (by repeat (first | with_reducible exact In.h | apply In.t)) ?_
    | with_reducible refine w_all cx (by repeat (first | with_reducible exact In.h | apply In.t)) ?_
    | with_reducible refine w_any cx (by repeat (first | with_reducible exact In.h | apply In.t)) ?_
    | with_reducible refine w_sum cx (by repeat (first | with_reducible exact In.h | apply In.t)) ?_
    | with_reducible refine w_intT cx (by repeat (first | with_reducible exact In.h | apply In.t)) ?_
    | with_reducible refine w_strT cx (by repeat (first | with_reducible exact In.h | apply In.t)) ?_
    | with_reducible refine w_tupleT cx (by repeat (first | with_reducible exact In.h | apply In.t)) ?_
    | with_reducible refine w_listT cx (by repeat (first | with_reducible exact In.h | apply In.t)) ?_
    | with_reducible refine w_dictT cx (by repeat (first | with_reducible exact In.h | apply In.t)) ?_
    | with_reducible refine w_boolT cx (by repeat (first | with_reducible exact In.h | apply In.t)) ?_
    | with_reducible refine w_attr ?_
    | with_reducible refine w_un ?_
    | with_reducible refine w_chain ?_
    | with_reducible refine w_and ?_
    | with_reducible refine w_or ?_
    | with_reducible refine w_bool1 ?_
    | with_reducible refine w_not ?_
    | with_reducible refine w_if ?_
    | with_reducible refine w_bl ?_
    | with_reducible refine w_non ?_
    | with_reducible refine w_joined ?_
    | with_reducible refine w_joined1 ?_
    | with_reducible refine w_fmt ?_)
  | (with_reducible refine ck_a ?_; first
    | with_reducible refine wa_cons ?_
    | with_reducible refine wa_nil ?_)
  | (with_reducible refine ck_s ?_; first
    | with_reducible refine s_set cx ?_
    | with_reducible refine s_if ?_
    | with_reducible refine s_ret ?_
    | with_reducible refine s_nil ?_
    | with_reducible refine s_expr ?_
    | with_reducible refine s_asg ?_
    | with_reducible refine s_pass ?_
    | with_reducible refine s_break ?_
    | with_reducible refine s_cont ?_
    | with_reducible refine s_retN ?_)
  | (with_reducible refine ck_o ?_; first
    | with_reducible refine o_addSn (by repeat (first | with_reducible exact l_emp | with_reducible exact l_en | with_reducible exact l_sp | with_reducible assumption | with_reducible exact l_frt (by first | with_reducible assumption | exact log_ok (by omega)) | with_reducible exact l_int (by first | with_reducible assumption | exact log_ok (by omega)) | with_reducible apply l_app | with_reducible exact Nat.le_refl _)) (by repeat (first | with_reducible exact l_emp | with_reducible exact l_en | with_reducible exact l_sp | with_reducible assumption | with_reducible exact l_frt (by first | with_reducible assumption | exact log_ok (by omega)) | with_reducible exact l_int (by first | with_reducible assumption | exact log_ok (by omega)) | with_reducible apply l_app | with_reducible exact Nat.le_refl _)) (by kernel_rfl) ?_
    | with_reducible refine o_add ?_
    | with_reducible refine o_sub ?_
    | with_reducible refine o_lt ?_
    | with_reducible refine o_le ?_
    | with_reducible refine o_gt ?_
    | with_reducible refine o_ge ?_
    | with_reducible refine o_eqI ?_
    | with_reducible refine o_neI ?_
    | with_reducible refine o_eqS ?_
    | with_reducible refine o_neS ?_
    | with_reducible refine o_neB ?_
    | with_reducible refine o_eqB ?_
    | with_reducible refine o_isN ?_
    | with_reducible refine o_notN ?_
    | with_reducible refine o_mod (by omega) ?_
    | with_reducible refine o_mulL (by omega) ?_
    | with_reducible refine o_mulR (by omega) ?_
    | with_reducible refine o_fdiv (by omega) ?_
    | with_reducible refine o_pow (by simp only [Int.reduceToNat, Int.reducePow]; first | done | rfl) (by omega) (by decide +kernel) ?_
    | with_reducible refine o_neL0 cx (by with_reducible assumption) (by repeat (first | with_reducible assumption | with_reducible exact Has.h | apply Has.t)) (by repeat (first | with_reducible assumption | with_reducible exact Has.h | apply Has.t)) ?_
    | with_reducible refine o_fdivB (by omega) ?_)
  | (with_reducible refine ck_c ?_; first
    | with_reducible refine c_strI (by first | with_reducible assumption | exact log_ok (by omega)) ?_
    | with_reducible refine c_reprI (by first | with_reducible assumption | exact log_ok (by omega)) ?_
    | with_reducible refine c_lenS (Nat.le_trans (by repeat (first | with_reducible exact l_emp | with_reducible exact l_en | with_reducible exact l_sp | with_reducible assumption | with_reducible exact l_frt (by first | with_reducible assumption | exact log_ok (by omega)) | with_reducible exact l_int (by first | with_reducible assumption | exact log_ok (by omega)) | with_reducible apply l_app | with_reducible exact Nat.le_refl _)) (Nat.le_of_ble_eq_true (by kernel_rfl))) ?_
    | with_reducible refine c_max cx ?_
    | with_reducible refine c_min cx ?_
    | with_reducible refine c_abs ?_
    | with_reducible refine c_intI ?_
    | with_reducible refine c_intB ?_
    | with_reducible refine c_strS ?_
    | with_reducible refine c_lenT (by with_reducible assumption) (by repeat (first | with_reducible assumption | with_reducible exact Ent.h | apply Ent.t)) ?_
    | with_reducible refine c_lenL (by with_reducible assumption) (by repeat (first | with_reducible assumption | with_reducible exact Has.h | apply Has.t)) ?_
    | with_reducible refine c_lenX (by with_reducible assumption) (by repeat (first | with_reducible assumption | with_reducible exact Ent.h | apply Ent.t)) ?_
    | with_reducible refine c_lenQ cx (by with_reducible assumption) (by repeat (first | with_reducible assumption | with_reducible exact Ent.h | apply Ent.t)) ?_)
  | (with_reducible refine ck_x ?_; first
    | with_reducible refine x_tup (by with_reducible assumption) (by repeat (first | with_reducible assumption | with_reducible exact Ent.h | apply Ent.t)) (by first | with_reducible exact at0 | with_reducible exact at1 | with_reducible exact at2) ?_
    | with_reducible refine x_lst (by with_reducible assumption) (by repeat (first | with_reducible assumption | with_reducible exact Has.h | apply Has.t)) (by first | with_reducible exact at0 | with_reducible exact at1 | with_reducible exact at2) ?_
    | with_reducible refine x_lstX (by with_reducible assumption) (by repeat (first | with_reducible assumption | with_reducible exact Ent.h | apply Ent.t)) (by first | with_reducible exact at0 | with_reducible exact at1 | with_reducible exact at2) ?_)
  | (with_reducible refine ck_t ?_; first
    | with_reducible refine t_cmp ?_
    | with_reducible refine t_chain ?_
    | with_reducible refine t_not ?_
    | with_reducible refine t_and ?_
    | with_reducible refine t_or ?_
    | with_reducible refine t_val ?_)
  | (with_reducible refine ck_w ?_; first
    | with_reducible refine ww_and ?_
    | with_reducible refine ww_or ?_
    | with_reducible refine ww_and1 ?_
    | with_reducible refine ww_or1 ?_)
  | (with_reducible refine ck_p ?_; first
    | with_reducible refine p_l0 (by with_reducible assumption) (by repeat (first | with_reducible assumption | with_reducible exact Put.h | apply Put.t)) ?_
    | with_reducible refine p_l1 (by with_reducible assumption) (by repeat (first | with_reducible assumption | with_reducible exact Put.h | apply Put.t)) ?_
    | with_reducible refine p_l2 (by with_reducible assumption) (by repeat (first | with_reducible assumption | with_reducible exact Put.h | apply Put.t)) ?_)
  | (with_reducible refine ck_f ?_; first
    | with_reducible refine f_str (Nat.le_trans (by repeat (first | with_reducible exact l_emp | with_reducible exact l_en | with_reducible exact l_sp | with_reducible assumption | with_reducible exact l_frt (by first | with_reducible assumption | exact log_ok (by omega)) | with_reducible exact l_int (by first | with_reducible assumption | exact log_ok (by omega)) | with_reducible apply l_app | with_reducible exact Nat.le_refl _)) (Nat.le_of_ble_eq_true (by kernel_rfl))) ?_
    | with_reducible refine f_int (by first | with_reducible assumption | exact log_ok (by omega)) ?_)
  | (with_reducible refine ck_j ?_; first
    | with_reducible refine wj_nil ?_
    | with_reducible refine wj_cons ?_)
  | (with_reducible refine ck_g ?_; first
    | with_reducible refine g_name cx (by repeat (first | with_reducible exact SetAt.h | apply SetAt.t)) ?_
    | with_reducible refine g_sub ?_)
  | with_reducible refine k_sj (by repeat (first | with_reducible exact l_emp | with_reducible exact l_en | with_reducible exact l_sp | with_reducible assumption | with_reducible exact l_frt (by first | with_reducible assumption | exact log_ok (by omega)) | with_reducible exact l_int (by first | with_reducible assumption | exact log_ok (by omega)) | with_reducible apply l_app | with_reducible exact Nat.le_refl _)) (by kernel_rfl) ?_
  | with_reducible refine k_set (by repeat (first | with_reducible exact SetAt.h | apply SetAt.t)) ?_
  | with_reducible refine k_bl ?_
  | with_reducible refine iteT ?_
  | with_reducible refine iteF ?_
  | with_reducible refine i_not ?_
  | with_reducible refine i_t (by with_reducible rfl) ?_
  | with_reducible refine i_t ⟨rfl, rfl, rfl⟩ ?_
  | with_reducible refine i_t (by with_reducible assumption) ?_
  | with_reducible refine i_f (by with_reducible assumption) ?_
  | with_reducible refine i_t (by omega) ?_
  | with_reducible refine i_f (by omega) ?_
  | with_reducible refine i_t (by simp only [List.length_cons, List.length_nil]; omega) ?_
  | with_reducible refine i_f (by simp only [List.length_cons, List.length_nil]; omega) ?_
  | with_reducible refine o_neg ?_
  | with_reducible refine k_sfld (by with_reducible assumption) (by repeat (first | with_reducible assumption | with_reducible exact Put.h | apply Put.t)) (by repeat (first | with_reducible exact FL.z | apply FL.s)) (by with_unfolding_all rfl) ?_
  | with_reducible refine gs_nil ?_
  | with_reducible refine gs_cons ?_
  | (with_reducible refine ⟨_, _, _, (by with_reducible assumption), (by with_unfolding_all exact Nat.le_of_ble_eq_true rfl), ?_⟩; intro p H kn)
  | (with_reducible intro H kn))
/-! frames: what a law's body does with them -/
section
variable {P : Program} {w : World} {K : PySem.W.Frag} {mg : Str → Option Value} {base : Heap} {C d fe fr : Addr}
variable {k : Nat} {VL AL : List (Option Str)} {GL : List Str} {E : XK} {X : Cx} {σ : St} {H : Hp} {Q : VK} {R : Hp → Prop} {N : List (Addr × (HO → Prop))} {L : List (Addr × Obj)} {a a' : Addr} {n n' : Int} {f b f' b' : Bool} {j : Nat} {x y : V}
theorem at_slots (cx : CxI P w K mg base k VL AL GL E X) (T : FrT K w mg C d) (D : Pr P w K mg base C "slots" j (spFr0 C fun n _ _ => .int (2 * n))) (hj : Nat.ble (j + 1) k = true) (kn : Kn R N L H) (e : Ent R (IsFr C a n f b)) (h : ∀ H', Kn R N L H' → Q (.int (2 * n)) H') : Wat X (.ref a) "slots" H Q := by
  obtain ⟨dx, e'⟩ := kn.get e
  exact at_prop cx T.cl D hj e' ⟨a, n, f, b, R, N, L, rfl, e, kn, h⟩
theorem at_turn (cx : CxI P w K mg base k VL AL GL E X) (T : FrT K w mg C d) (D : Pr P w K mg base C "turn" j (spFr0 C fun _ f b => .int (sgn f * sgn b))) (hj : Nat.ble (j + 1) k = true) (kn : Kn R N L H) (e : Ent R (IsFr C a n f b)) (h : ∀ H', Kn R N L H' → Q (.int (sgn f * sgn b)) H') : Wat X (.ref a) "turn" H Q := by
  obtain ⟨dx, e'⟩ := kn.get e
  exact at_prop cx T.cl D hj e' ⟨a, n, f, b, R, N, L, rfl, e, kn, h⟩
theorem c_reprFr (cx : CxI P w K mg base k VL AL GL E X) (q : FrQ K C fe fr) (M : MtA P w K mg base fr j ["self"] (spFrRepr C)) (hj : Nat.ble (j + 1) k = true) (kn : Kn R N L H) (e : Ent R (IsFr C a n f b)) (hn : n.natAbs.log2 < 1920) (h : ∀ H', Kn R N L H' → Q (.str (frRepr n f b)) H') : Wcall X (.builtin "repr") [.ref a] H Q := by
  obtain ⟨dx, e'⟩ := kn.get e
  exact c_reprOwn cx q.rp M hj e' ⟨n, f, b, a, R, N, L, rfl, hn, e, kn, fun H' kn' => ⟨_, rfl, h H' kn'⟩⟩
theorem f_fr (cx : CxI P w K mg base k VL AL GL E X) (q : FrQ K C fe fr) (M : MtA P w K mg base fr j ["self"] (spFrRepr C)) (hj : Nat.ble (j + 2) k = true) (kn : Kn R N L H) (e : Ent R (IsFr C a n f b)) (hn : n.natAbs.log2 < 1920) (h : ∀ H', Kn R N L H' → Q (.str (frRepr n f b)) H') : Wfm X (.ref a) H Q := by
  obtain ⟨dx, e'⟩ := kn.get e
  exact f_own cx q.rp M hj e' ⟨n, f, b, a, R, N, L, rfl, hn, e, kn, fun H' kn' => ⟨_, rfl, h H' kn'⟩⟩
theorem o_eqFr (cx : CxI P w K mg base k VL AL GL E X) (q : FrQ K C fe fr) (M : MtA P w K mg base fe j ["self", "other"] (spFrEq C)) (hj : Nat.ble j k = true) (kn : Kn R N L H) (e : Ent R (IsFr C a n f b)) (e' : Ent R (IsFr C a' n' f' b'))
    (h : ∀ H', Kn R N L H' → Q (.bl (decide (n = n' ∧ f = f' ∧ b = b'))) H') : Wop X (compareOp .Eq) (.ref a) (.ref a') H Q := by
  obtain ⟨dx, z⟩ := kn.get e
  obtain ⟨dx', z'⟩ := kn.get e'
  exact o_eqOwn cx q.eq M hj z (tb := .ref C) (.inl ⟨_, _, _, z', rfl⟩) (by simp [PySem.W.notFirst]) ⟨n, f, b, a, _, _, R, N, L, rfl, e, .inl ⟨a', n', f', b', rfl, e', rfl⟩, kn, fun H' kn' => ⟨_, rfl, h H' kn'⟩⟩
theorem o_neFr (cx : CxI P w K mg base k VL AL GL E X) (q : FrQ K C fe fr) (M : MtA P w K mg base fe j ["self", "other"] (spFrEq C)) (hj : Nat.ble (j + 1) k = true) (kn : Kn R N L H) (e : Ent R (IsFr C a n f b)) (e' : Ent R (IsFr C a' n' f' b'))
    (h : ∀ H', Kn R N L H' → Q (.bl (!decide (n = n' ∧ f = f' ∧ b = b'))) H') : Wop X (compareOp .NotEq) (.ref a) (.ref a') H Q := by
  obtain ⟨dx, z⟩ := kn.get e
  obtain ⟨dx', z'⟩ := kn.get e'
  exact o_neOwn cx q.eq M hj z (tb := .ref C) (.inl ⟨_, _, _, z', rfl⟩) (by simp [PySem.W.notFirst]) ⟨n, f, b, a, _, _, R, N, L, rfl, e, .inl ⟨a', n', f', b', rfl, e', rfl⟩, kn, fun H' kn' => ⟨_, rfl, h H' kn'⟩⟩
theorem o_eqFrT (cx : CxI P w K mg base k VL AL GL E X) (q : FrQ K C fe fr) (M : MtA P w K mg base fe j ["self", "other"] (spFrEq C)) (hj : Nat.ble j k = true) (kn : Kn R N L H) (e : Ent R (IsFr C a n f b)) {xs : List V} (e' : Ent R (Ex a' (.tup xs)))
    (h : ∀ H', Kn R N L H' → Q (.bl false) H') : Wop X (compareOp .Eq) (.ref a) (.ref a') H Q := by
  obtain ⟨dx, z⟩ := kn.get e
  exact o_eqOwn cx q.eq M hj z (tb := .type "tuple") (.inr ⟨_, kn.get e', rfl⟩) q.nt ⟨n, f, b, a, _, false, R, N, L, rfl, e, .inr ⟨rfl, .inl ⟨_, _, rfl, e'⟩⟩, kn, fun H' kn' => ⟨_, rfl, h H' kn'⟩⟩
theorem o_eqFrS (cx : CxI P w K mg base k VL AL GL E X) (q : FrQ K C fe fr) (M : MtA P w K mg base fe j ["self", "other"] (spFrEq C)) (hj : Nat.ble j k = true) (kn : Kn R N L H) (e : Ent R (IsFr C a n f b)) {z : Str}
    (h : ∀ H', Kn R N L H' → Q (.bl false) H') : Wop X (compareOp .Eq) (.ref a) (.str z) H Q := by
  obtain ⟨dx, z⟩ := kn.get e
  exact o_eqOwn cx q.eq M hj z (tb := .type "str") rfl q.nst ⟨n, f, b, a, _, false, R, N, L, rfl, e, .inr ⟨rfl, .inr ⟨_, rfl⟩⟩, kn, fun H' kn' => ⟨_, rfl, h H' kn'⟩⟩
/-- drawn frames' tuples -/
def Gd (n : Int) (f b : Bool) : PyData := .tuple [.int n, .str (en f), .str (en b)]
theorem gd_dp (kn : Kn R N L H) (e : Ent R (Ex a (.tup [.int n, .str (en f), .str (en b)]))) : Dp K H (.ref a) (Gd n f b) := d_tup kn e (.cons (.int n) (.cons (.str _) (.cons (.str _) .nil)))
theorem gd_sh : SeqAt.shaped (Gd n f b) = true := by cases f <;> cases b <;> kernel_rfl
theorem gd_pl : pl (Gd n f b) = true := by kernel_rfl
theorem gd_iff : Gd n f b = Gd n' f' b' ↔ (n = n' ∧ f = f' ∧ b = b') := by
  unfold Gd
  simp [en_inj]
theorem o_eqG (cx : CxI P w K mg base k VL AL GL E X) (kn : Kn R N L H) (e : Ent R (Ex a (.tup [.int n, .str (en f), .str (en b)]))) (e' : Ent R (Ex a' (.tup [.int n', .str (en f'), .str (en b')])))
    (h : Q (.bl (decide (n = n' ∧ f = f' ∧ b = b'))) H) : Wop X (compareOp .Eq) (.ref a) (.ref a') H Q := by
  refine o_eqD cx (gd_dp kn e) (gd_dp kn e') gd_sh gd_sh gd_pl gd_pl fun c hc => ?_
  rw [gd_iff] at hc
  have z : c = decide (n = n' ∧ f = f' ∧ b = b') := by
    cases c
    · exact (decide_eq_false fun q => Bool.false_ne_true (hc.mpr q)).symm
    · exact (decide_eq_true (hc.mp rfl)).symm
  rw [z]
  exact h
theorem o_neG (cx : CxI P w K mg base k VL AL GL E X) (kn : Kn R N L H) (e : Ent R (Ex a (.tup [.int n, .str (en f), .str (en b)]))) (e' : Ent R (Ex a' (.tup [.int n', .str (en f'), .str (en b')])))
    (h : Q (.bl (!decide (n = n' ∧ f = f' ∧ b = b'))) H) : Wop X (compareOp .NotEq) (.ref a) (.ref a') H Q := by
  refine o_neD cx (gd_dp kn e) (gd_dp kn e') gd_sh gd_sh gd_pl gd_pl fun c hc => ?_
  rw [gd_iff] at hc
  have z : c = decide (n = n' ∧ f = f' ∧ b = b') := by
    cases c
    · exact (decide_eq_false fun q => Bool.false_ne_true (hc.mpr q)).symm
    · exact (decide_eq_true (hc.mp rfl)).symm
  rw [z]
  exact h

open TL
/-- the texts -/
theorem emp_app (x : Str) : Str.empty ++ x = x := by
  refine ext_tl ?_
  rw [tl_append]
  rfl
abbrev lText (n : Int) (f b : Bool) : Str := (((en f ++ " ") ++ Str.ofString (toString n)) ++ " ") ++ en b
theorem frText_eq : frText n f b = lText n f b := by unfold frText lText; rw [emp_app]
theorem frRepr_eq : frRepr n f b = ("Frame(" ++ lText n f b) ++ ")" := by unfold frRepr; rw [emp_app, frText_eq]
theorem turn_at : atI [V.int (-1), V.int 1] (if decide (en f = en b) = true then 1 else 0) = some (.int (sgn f * sgn b)) := by
  cases f <;> cases b
  · rw [if_pos (decide_eq_true rfl)]; exact at1
  · rw [decide_eq_false (by rw [en_inj]; simp), if_neg Bool.false_ne_true]; exact at0
  · rw [decide_eq_false (by rw [en_inj]; simp), if_neg Bool.false_ne_true]; exact at0
  · rw [if_pos (decide_eq_true rfl)]; exact at1
theorem sgsg_ok : (sgn f * sgn b).natAbs.log2 < 1920 := by cases f <;> cases b <;> decide
/-- the law's text is read back -/
theorem num_ok (h0 : 1 ≤ n) (h1 : n ≤ 1000000000000000000) : numOf (Str.ofString (toString n)) = .int n := by
  obtain ⟨m, rfl⟩ : ∃ m : Nat, n = (m : Int) := ⟨n.toNat, by omega⟩
  have e := tl_num m
  have e' : (Str.ofString (toString ((m : Nat) : Int))).cps.toList = numL m := e
  have hl : (numL m).length ≤ 19 := numL_len (by decide) (by omega)
  have hl' : (Str.ofString (toString ((m : Nat) : Int))).length = (numL m).length := by
    show (Str.ofString (toString ((m : Nat) : Int))).cps.size = _
    rw [← e', Array.length_toList]
  have h3 : 1 ≤ (numL m).length := by
    have z := numL_ne m
    cases q : numL m with
    | nil => exact absurd q z
    | cons a l => simp
  have h4 : (numL m).all isDg = true := List.all_eq_true.mpr fun c hc => isDg_iff.mpr (numL_digits m c hc)
  have h5 : ¬ (numL m).head? = some 48 := by
    have key : ∀ q : Nat, 1 ≤ q → ¬ (numL q).head? = some 48 := by
      intro q
      induction q using Nat.strongRecOn with
      | _ q ih =>
        intro hq
        by_cases h : q < 10
        · rw [numL_lt h]
          simp
          omega
        · rw [numL_step (by omega)]
          have z := ih (q / 10) (by omega) (by omega)
          rw [List.head?_append]
          cases w : (numL (q / 10)).head? with
          | none =>
            have := numL_ne (q / 10)
            simp at w
            exact absurd w this
          | some c =>
            rw [w] at z
            simpa using z
    exact key m (by omega)
  unfold numOf okNum
  rw [hl', e', h4]
  have h6 : (decide (1 ≤ (numL m).length) && decide ((numL m).length ≤ 19) && true && !decide ((numL m).head? = some 48)) = true := by simp [h3, hl, h5]
  rw [if_pos h6, numL_val]
theorem split_ok (h0 : 1 ≤ n) : Txt.split (lText n f b) " " = [en f, Str.ofString (toString n), en b] := by
  obtain ⟨m, rfl⟩ : ∃ m : Nat, n = (m : Int) := ⟨n.toNat, by omega⟩
  have j : lText ((m : Nat) : Int) f b = Txt.join " " [en f, Str.ofString (toString ((m : Nat) : Int)), en b] := by
    unfold lText
    rw [join_eq]
    refine ext_tl ?_
    rw [tl_join]
    simp only [List.map_cons, List.map_nil, joinL, tl_append, List.append_assoc]
  rw [j]
  refine split_join (s := 32) (S := []) (by decide +kernel) (by decide +kernel) (by simp) fun p hp => ?_
  have hen : ∀ b : Bool, 32 ∉ tl (en b) := fun b => by cases b <;> decide +kernel
  rcases List.mem_cons.mp hp with rfl | hp
  · exact hen f
  rcases List.mem_cons.mp hp with rfl | hp
  · rw [tl_num]
    exact numL_free (by omega)
  rcases List.mem_cons.mp hp with rfl | hp
  · exact hen b
  · cases hp
theorem k_parse (kn : Kn R N L H) (h0 : 1 ≤ n) (h1 : n ≤ 1000000000000000000) (h : ∀ a H', Kn (Cj (IsFr C a n f b) R) N L H' → Q (.ref a) H') : spParse C [.ref C, .str (lText n f b)] H Q E := by
  have hl := log_ok (i := n) (by omega)
  have l1 := l_int hl
  refine ⟨lText n f b, _, n, f, b, R, N, L, rfl, ?_, Nat.le_trans l1 (by decide), split_ok h0, num_ok h0 h1, h0, h1, kn, h⟩
  exact Nat.le_trans (l_app (l_app (l_app (l_app l_en l_sp) l1) l_sp) l_en) (by decide)
end
section
variable {P : Program} {w : World} {K : PySem.W.Frag} {mg : Str → Option Value} {base : Heap} {C d fe fr : Addr}
theorem k_source {a : Addr} {ns : List Int} {i : Int} {R : Hp → Prop} {N : List (Addr × (HO → Prop))} {L : List (Addr × Obj)} {H : Hp} {Q : VK} {E : XK} (h0 : 0 ≤ i) (h1 : i ≤ 100) (h2 : ns.length ≤ 100) (en : Ent R fun J => SqL K J a (ns.map V.int)) (kn : Kn R N L H)
    (h : ∀ (s : Addr) (H' : Hp), Kn R ((s, IsSrc 0) :: N) L H' → Q (.ref s) H') : spSource K [.ref a, .int i] H Q E := ⟨a, ns, i, R, N, L, rfl, h0, h1, h2, en, kn, h⟩
theorem k_lawframe {s : Addr} {m c : Int} {R : Hp → Prop} {N N' : List (Addr × (HO → Prop))} {L : List (Addr × Obj)} {H : Hp} {Q : VK} {E : XK} (hp : Put s (IsSrc c) (IsSrc (c + 3)) N N') (kn : Kn R N L H) (h0 : 0 < m) (h1 : m ≤ 1000000000000000000) (c0 : 0 ≤ c) (c1 : c ≤ 1000000000000000000)
    (h : ∀ p n f b H', 1 ≤ n → n ≤ m → Kn (Cj (Ex p (.tup [.int n, .str (en f), .str (en b)])) R) N' L H' → Q (.ref p) H') : spLawFrame [.ref s, .int m] H Q E := ⟨s, m, c, R, N, N', L, rfl, h0, h1, c0, c1, hp, kn, h⟩
theorem k_lawmade {p : Addr} {n : Int} {f b : Bool} {R : Hp → Prop} {N : List (Addr × (HO → Prop))} {L : List (Addr × Obj)} {H : Hp} {Q : VK} {E : XK} (kn : Kn R N L H) (e : Ent R (Ex p (.tup [.int n, .str (en f), .str (en b)]))) (h0 : 1 ≤ n) (h1 : n ≤ 1000000000000000000)
    (h : ∀ a H', Kn (Cj (IsFr C a n f b) R) N L H' → Q (.ref a) H') : spLawMade C [.ref p] H Q E := ⟨p, n, f, b, R, N, L, rfl, h0, h1, e, kn, h⟩
end

end
end U

namespace U
section
open PySem PySem.Spec L2
open PySem.W (findIn isFn mroIn Looks InstAt)
open PyProof.Rows hiding St
set_option hygiene false
local macro_rules | `(tactic| walk_at "k") => `(tactic| first
  | (with_reducible refine ck_e ?_; first
    | with_reducible refine w_SIGNS cx T (by repeat (first | with_reducible exact In.h | apply In.t)) ?_
    | with_reducible refine w_Frame cx T (by repeat (first | with_reducible exact In.h | apply In.t)) ?_
    | with_reducible refine w_call cx (by repeat (first | with_reducible exact In.h | apply In.t)) D1 (by kernel_rfl) ?_
    | with_reducible refine w_call cx (by repeat (first | with_reducible exact In.h | apply In.t)) D2 (by kernel_rfl) ?_
    | with_reducible refine w_call cx (by repeat (first | with_reducible exact In.h | apply In.t)) D3 (by kernel_rfl) ?_
    | with_reducible refine w_call cx (by repeat (first | with_reducible exact In.h | apply In.t)) D4 (by kernel_rfl) ?_
    | with_reducible refine w_call cx (by repeat (first | with_reducible exact In.h | apply In.t)) D5 (by kernel_rfl) ?_
    | with_reducible refine w_cmeth cx CP (by kernel_rfl) ?_
    | with_reducible refine w_var cx (by repeat (first | with_reducible exact SlotIs.h | apply SlotIs.t)) ?_
    | with_reducible refine w_int ?_
    | with_reducible refine w_bin ?_
    | with_reducible refine w_ix ?_
    | with_reducible refine w_cmp ?_
    | with_reducible refine w_str ?_
    | with_reducible refine w_tupK ?_
    | with_reducible refine w_lstK ?_
    | with_reducible refine w_len cx (by repeat (first | with_reducible exact In.h | apply In.t)) ?_
    | with_reducible refine w_max cx (by repeat (first | with_reducible exact In.h | apply In.t)) ?_
    | with_reducible refine w_min cx (by repeat (first | with_reducible exact In.h | apply In.t)) ?_
    | with_reducible refine w_abs cx (by repeat (first | with_reducible exact In.h | apply In.t)) ?_
    | with_reducible refine w_repr cx (by repeat (first | with_reducible exact In.h | apply In.t)) ?_
    | with_reducible refine w_isinstance cx (by repeat (first | with_reducible exact In.h | apply In.t)) ?_
    | with_reducible refine w_sorted cx (by repeat (first | with_reducible exact In.h | apply In.t)) ?_
    | with_reducible refine w_all cx (by repeat (first | with_reducible exact In.h | apply In.t)) ?_
    | with_reducible refine w_any cx (by repeat (first | with_reducible exact In.h | apply In.t)) ?_
    | with_reducible refine w_sum cx (by repeat (first | with_reducible exact In.h | apply In.t)) ?_
    | with_reducible refine w_intT cx (by repeat (first | with_reducible exact In.h | apply In.t)) ?_
    | with_reducible refine w_strT cx (by repeat (first | with_reducible exact In.h | apply In.t)) ?_
    | with_reducible refine w_tupleT cx (by repeat (first | with_reducible exact In.h | apply In.t)) ?_
    | with_reducible refine w_listT cx (by repeat (first | with_reducible exact In.h | apply In.t)) ?_
    | with_reducible refine w_dictT cx (by repeat (first | with_reducible exact In.h | apply In.t)) ?_
    | with_reducible refine w_boolT cx (by repeat (first | with_reducible exact In.h | apply In.t)) ?_
    | with_reducible refine w_attr ?_
    | with_reducible refine w_un ?_
    | with_reducible refine w_chain ?_
    | with_reducible refine w_and ?_
    | with_reducible refine w_or ?_
    | with_reducible refine w_bool1 ?_
    | with_reducible refine w_not ?_
    | with_reducible refine w_if ?_
    | with_reducible refine w_bl ?_
    | with_reducible refine w_non ?_
    | with_reducible refine w_joined ?_
    | with_reducible refine w_joined1 ?_
    | with_reducible refine w_fmt ?_)
  | (with_reducible refine ck_a ?_; first
    | with_reducible refine wa_cons ?_
    | with_reducible refine wa_nil ?_)
  | (with_reducible refine ck_s ?_; first
    | with_reducible refine s_fld cx T.cl T.n1 ?_
    | with_reducible refine s_fld cx T.cl T.n2 ?_
    | with_reducible refine s_fld cx T.cl T.n3 ?_
    | with_reducible refine s_fld cx T.cl T.n4 ?_
    | with_reducible refine s_fld cx T.cl T.n5 ?_
    | with_reducible refine s_set cx ?_
    | with_reducible refine s_if ?_
    | with_reducible refine s_ret ?_
    | with_reducible refine s_nil ?_
    | with_reducible refine s_expr ?_
    | with_reducible refine s_asg ?_
    | with_reducible refine s_pass ?_
    | with_reducible refine s_break ?_
    | with_reducible refine s_cont ?_
    | with_reducible refine s_retN ?_)
  | (with_reducible refine ck_o ?_; first
    | with_reducible refine o_ninSg cx T ?_
    | with_reducible refine o_eqFr cx q ME (by kernel_rfl) (by with_reducible assumption) (by repeat (first | with_reducible assumption | with_reducible exact Ent.h | apply Ent.t)) (by repeat (first | with_reducible assumption | with_reducible exact Ent.h | apply Ent.t)) (fun H kn => ?_)
    | with_reducible refine o_neFr cx q ME (by kernel_rfl) (by with_reducible assumption) (by repeat (first | with_reducible assumption | with_reducible exact Ent.h | apply Ent.t)) (by repeat (first | with_reducible assumption | with_reducible exact Ent.h | apply Ent.t)) (fun H kn => ?_)
    | with_reducible refine o_eqFrT cx q ME (by kernel_rfl) (by with_reducible assumption) (by repeat (first | with_reducible assumption | with_reducible exact Ent.h | apply Ent.t)) (by repeat (first | with_reducible assumption | with_reducible exact Ent.h | apply Ent.t)) (fun H kn => ?_)
    | with_reducible refine o_eqFrS cx q ME (by kernel_rfl) (by with_reducible assumption) (by repeat (first | with_reducible assumption | with_reducible exact Ent.h | apply Ent.t)) (fun H kn => ?_)
    | with_reducible refine o_eqG cx (by with_reducible assumption) (by repeat (first | with_reducible assumption | with_reducible exact Ent.h | apply Ent.t)) (by repeat (first | with_reducible assumption | with_reducible exact Ent.h | apply Ent.t)) ?_
    | with_reducible refine o_neG cx (by with_reducible assumption) (by repeat (first | with_reducible assumption | with_reducible exact Ent.h | apply Ent.t)) (by repeat (first | with_reducible assumption | with_reducible exact Ent.h | apply Ent.t)) ?_
    | with_reducible refine o_addSn (by repeat (first | with_reducible exact l_emp | with_reducible exact l_en | with_reducible exact l_sp | with_reducible assumption | with_reducible exact l_frt (by first | with_reducible assumption | exact log_ok (by omega)) | with_reducible exact l_int (by first | with_reducible assumption | exact log_ok (by omega)) | with_reducible apply l_app | with_reducible exact Nat.le_refl _)) (by repeat (first | with_reducible exact l_emp | with_reducible exact l_en | with_reducible exact l_sp | with_reducible assumption | with_reducible exact l_frt (by first | with_reducible assumption | exact log_ok (by omega)) | with_reducible exact l_int (by first | with_reducible assumption | exact log_ok (by omega)) | with_reducible apply l_app | with_reducible exact Nat.le_refl _)) (by kernel_rfl) ?_
    | with_reducible refine o_add ?_
    | with_reducible refine o_sub ?_
    | with_reducible refine o_lt ?_
    | with_reducible refine o_le ?_
    | with_reducible refine o_gt ?_
    | with_reducible refine o_ge ?_
    | with_reducible refine o_eqI ?_
    | with_reducible refine o_neI ?_
    | with_reducible refine o_eqS ?_
    | with_reducible refine o_neS ?_
    | with_reducible refine o_neB ?_
    | with_reducible refine o_eqB ?_
    | with_reducible refine o_isN ?_
    | with_reducible refine o_notN ?_
    | with_reducible refine o_mod (by omega) ?_
    | with_reducible refine o_mulL (by omega) ?_
    | with_reducible refine o_mulR (by omega) ?_
    | with_reducible refine o_fdiv (by omega) ?_
    | with_reducible refine o_pow (by simp only [Int.reduceToNat, Int.reducePow]; first | done | rfl) (by omega) (by decide +kernel) ?_
    | with_reducible refine o_neL0 cx (by with_reducible assumption) (by repeat (first | with_reducible assumption | with_reducible exact Has.h | apply Has.t)) (by repeat (first | with_reducible assumption | with_reducible exact Has.h | apply Has.t)) ?_
    | with_reducible refine o_fdivB (by omega) ?_)
  | (with_reducible refine ck_c ?_; first
    | with_reducible refine c_reprFr cx q MR (by kernel_rfl) (by with_reducible assumption) (by repeat (first | with_reducible assumption | with_reducible exact Ent.h | apply Ent.t)) (by first | with_reducible assumption | exact log_ok (by omega)) (fun H kn => ?_)
    | with_reducible refine c_reprI sgsg_ok ?_
    | with_reducible refine c_strI (by first | with_reducible assumption | exact log_ok (by omega)) ?_
    | with_reducible refine c_reprI (by first | with_reducible assumption | exact log_ok (by omega)) ?_
    | with_reducible refine c_lenS (Nat.le_trans (by repeat (first | with_reducible exact l_emp | with_reducible exact l_en | with_reducible exact l_sp | with_reducible assumption | with_reducible exact l_frt (by first | with_reducible assumption | exact log_ok (by omega)) | with_reducible exact l_int (by first | with_reducible assumption | exact log_ok (by omega)) | with_reducible apply l_app | with_reducible exact Nat.le_refl _)) (Nat.le_of_ble_eq_true (by kernel_rfl))) ?_
    | with_reducible refine c_max cx ?_
    | with_reducible refine c_min cx ?_
    | with_reducible refine c_abs ?_
    | with_reducible refine c_intI ?_
    | with_reducible refine c_intB ?_
    | with_reducible refine c_strS ?_
    | with_reducible refine c_lenT (by with_reducible assumption) (by repeat (first | with_reducible assumption | with_reducible exact Ent.h | apply Ent.t)) ?_
    | with_reducible refine c_lenL (by with_reducible assumption) (by repeat (first | with_reducible assumption | with_reducible exact Has.h | apply Has.t)) ?_
    | with_reducible refine c_lenX (by with_reducible assumption) (by repeat (first | with_reducible assumption | with_reducible exact Ent.h | apply Ent.t)) ?_
    | with_reducible refine c_lenQ cx (by with_reducible assumption) (by repeat (first | with_reducible assumption | with_reducible exact Ent.h | apply Ent.t)) ?_)
  | (with_reducible refine ck_x ?_; first
    | with_reducible refine x_Sg cx T ?_
    | with_reducible refine x_lst (by with_reducible assumption) (by repeat (first | with_reducible assumption | with_reducible exact Has.h | apply Has.t)) turn_at ?_
    | with_reducible refine x_tup (by with_reducible assumption) (by repeat (first | with_reducible assumption | with_reducible exact Ent.h | apply Ent.t)) (by first | with_reducible exact at0 | with_reducible exact at1 | with_reducible exact at2) ?_
    | with_reducible refine x_lst (by with_reducible assumption) (by repeat (first | with_reducible assumption | with_reducible exact Has.h | apply Has.t)) (by first | with_reducible exact at0 | with_reducible exact at1 | with_reducible exact at2) ?_
    | with_reducible refine x_lstX (by with_reducible assumption) (by repeat (first | with_reducible assumption | with_reducible exact Ent.h | apply Ent.t)) (by first | with_reducible exact at0 | with_reducible exact at1 | with_reducible exact at2) ?_)
  | (with_reducible refine ck_at ?_; first
    | with_reducible refine at_most cx T ?_
    | with_reducible refine at_pieces cx T (by with_reducible assumption) (by repeat (first | with_reducible assumption | with_reducible exact Ent.h | apply Ent.t)) ?_
    | with_reducible refine at_front cx T (by with_reducible assumption) (by repeat (first | with_reducible assumption | with_reducible exact Ent.h | apply Ent.t)) ?_
    | with_reducible refine at_back cx T (by with_reducible assumption) (by repeat (first | with_reducible assumption | with_reducible exact Ent.h | apply Ent.t)) ?_
    | with_reducible refine at_fs cx T (by with_reducible assumption) (by repeat (first | with_reducible assumption | with_reducible exact Ent.h | apply Ent.t)) ?_
    | with_reducible refine at_bs cx T (by with_reducible assumption) (by repeat (first | with_reducible assumption | with_reducible exact Ent.h | apply Ent.t)) ?_
    | with_reducible refine at_slots cx T PS (by kernel_rfl) (by with_reducible assumption) (by repeat (first | with_reducible assumption | with_reducible exact Ent.h | apply Ent.t)) (fun H kn => ?_)
    | with_reducible refine at_turn cx T PU (by kernel_rfl) (by with_reducible assumption) (by repeat (first | with_reducible assumption | with_reducible exact Ent.h | apply Ent.t)) (fun H kn => ?_)
    | with_reducible refine at_text cx T PT (by kernel_rfl) (by with_reducible assumption) (by repeat (first | with_reducible assumption | with_reducible exact Ent.h | apply Ent.t)) (by first | with_reducible assumption | exact log_ok (by omega)) (fun H kn => ?_))
  | (with_reducible refine ck_t ?_; first
    | with_reducible refine t_cmp ?_
    | with_reducible refine t_chain ?_
    | with_reducible refine t_not ?_
    | with_reducible refine t_and ?_
    | with_reducible refine t_or ?_
    | with_reducible refine t_val ?_)
  | (with_reducible refine ck_w ?_; first
    | with_reducible refine ww_and ?_
    | with_reducible refine ww_or ?_
    | with_reducible refine ww_and1 ?_
    | with_reducible refine ww_or1 ?_)
  | (with_reducible refine ck_p ?_; first
    | with_reducible refine p_l0 (by with_reducible assumption) (by repeat (first | with_reducible assumption | with_reducible exact Put.h | apply Put.t)) ?_
    | with_reducible refine p_l1 (by with_reducible assumption) (by repeat (first | with_reducible assumption | with_reducible exact Put.h | apply Put.t)) ?_
    | with_reducible refine p_l2 (by with_reducible assumption) (by repeat (first | with_reducible assumption | with_reducible exact Put.h | apply Put.t)) ?_)
  | (with_reducible refine ck_f ?_; first
    | with_reducible refine f_fr cx q MR (by kernel_rfl) (by with_reducible assumption) (by repeat (first | with_reducible assumption | with_reducible exact Ent.h | apply Ent.t)) (by first | with_reducible assumption | exact log_ok (by omega)) (fun H kn => ?_)
    | with_reducible refine f_str (Nat.le_trans (by repeat (first | with_reducible exact l_emp | with_reducible exact l_en | with_reducible exact l_sp | with_reducible assumption | with_reducible exact l_frt (by first | with_reducible assumption | exact log_ok (by omega)) | with_reducible exact l_int (by first | with_reducible assumption | exact log_ok (by omega)) | with_reducible apply l_app | with_reducible exact Nat.le_refl _)) (Nat.le_of_ble_eq_true (by kernel_rfl))) ?_
    | with_reducible refine f_int (by first | with_reducible assumption | exact log_ok (by omega)) ?_)
  | (with_reducible refine ck_j ?_; first
    | with_reducible refine wj_nil ?_
    | with_reducible refine wj_cons ?_)
  | (with_reducible refine ck_g ?_; first
    | with_reducible refine g_name cx (by repeat (first | with_reducible exact SetAt.h | apply SetAt.t)) ?_
    | with_reducible refine g_sub ?_)
  | with_reducible refine k_Frame (by with_reducible assumption) (by omega) (by omega) (fun p H kn => ?_)
  | with_reducible refine i_t frText_eq ?_
  | with_reducible refine i_t frRepr_eq ?_
  | with_reducible refine k_sj (by repeat (first | with_reducible exact l_emp | with_reducible exact l_en | with_reducible exact l_sp | with_reducible assumption | with_reducible exact l_frt (by first | with_reducible assumption | exact log_ok (by omega)) | with_reducible exact l_int (by first | with_reducible assumption | exact log_ok (by omega)) | with_reducible apply l_app | with_reducible exact Nat.le_refl _)) (by kernel_rfl) ?_
  | with_reducible refine k_set (by repeat (first | with_reducible exact SetAt.h | apply SetAt.t)) ?_
  | with_reducible refine k_bl ?_
  | with_reducible refine iteT ?_
  | with_reducible refine iteF ?_
  | with_reducible refine i_not ?_
  | with_reducible refine i_t (by with_reducible rfl) ?_
  | with_reducible refine i_t ⟨rfl, rfl, rfl⟩ ?_
  | with_reducible refine i_t (by with_reducible assumption) ?_
  | with_reducible refine i_f (by with_reducible assumption) ?_
  | with_reducible refine i_t (by omega) ?_
  | with_reducible refine i_f (by omega) ?_
  | with_reducible refine i_t (by simp only [List.length_cons, List.length_nil]; omega) ?_
  | with_reducible refine i_f (by simp only [List.length_cons, List.length_nil]; omega) ?_
  | with_reducible refine o_neg ?_
  | with_reducible refine k_sfld (by with_reducible assumption) (by repeat (first | with_reducible assumption | with_reducible exact Put.h | apply Put.t)) (by repeat (first | with_reducible exact FL.z | apply FL.s)) (by with_unfolding_all rfl) ?_
  | with_reducible refine gs_nil ?_
  | with_reducible refine gs_cons ?_
  | (with_reducible refine ⟨_, _, _, (by with_reducible assumption), (by with_unfolding_all exact Nat.le_of_ble_eq_true rfl), ?_⟩; intro p H kn)
  | (with_reducible intro H kn))
/-! k02: the law's inner body in pieces -/
def forBody (s : Stmt) : List Stmt := match s with
  | .For _ _ b _ _ => b
  | _ => []
def lawIn : List Stmt := forBody ((forBody ((defBody s_law).getD 0 (.Pass ⟨0, 0, 0, 0⟩))).getD 1 (.Pass ⟨0, 0, 0, 0⟩))
abbrev ib (i : Nat) : Stmt := lawIn.getD i (.Pass ⟨0, 0, 0, 0⟩)
section
variable {P : Program} {w : World} {K : PySem.W.Frag} {mg : Str → Option Value} {base : Heap} {C d fe fr : Addr}
variable {E : XK} {X : Cx} {H : Hp} {nx : St → Hp → Prop} {rt : VK} {bk ct : St → Hp → Prop} {rest : List Stmt} {R : Hp → Prop} {a s g fa : Addr} {n c i m : Int} {f b : Bool} {v7 v10 v11 v12 v13 : Option V}
def lst14 (a s g fa : Addr) (i m n : Int) (f b : Bool) (v7 v10 v11 v12 v13 : Option V) : St := [some (.ref a), some (.int i), some (.ref s), some (.int m), some (.ref g), some (.ref fa), some (.str (lText n f b)), v7, none, none, v10, v11, v12, v13]
theorem seg_B (cx : CxI P w K mg base 7 v_law v_law g_law E X) (T : FrT K w mg C d) (q : FrQ K C fe fr)
    (PT : Pr P w K mg base C "text" 1 (spFrText C)) (PS : Pr P w K mg base C "slots" 1 (spFr0 C fun n _ _ => .int (2 * n))) (PU : Pr P w K mg base C "turn" 1 (spFr0 C fun _ f b => .int (sgn f * sgn b))) (MR : MtA P w K mg base fr 3 ["self"] (spFrRepr C)) (ME : MtA P w K mg base fe 1 ["self", "other"] (spFrEq C))
    (CP : Cm P w K mg base C "parse" 3 ["cls", "text"] (spParse C)) (n0 : 1 ≤ n) (n1 : n ≤ 1000000000000000000) (eg : Ent R (Ex g (.tup [.int n, .str (en f), .str (en b)]))) (ef : Ent R (IsFr C fa n f b)) (kn : Kn R [(s, IsSrc c)] [] H)
    (hk : ∀ H', Kn R [(s, IsSrc c)] [] H' → Wss X rest ⟨nx, rt, bk, ct⟩ (lst14 a s g fa i m n f b v7 v10 v11 v12 v13) H') : Wss X (ib 3 :: ib 4 :: ib 5 :: ib 6 :: rest) ⟨nx, rt, bk, ct⟩ (lst14 a s g fa i m n f b v7 v10 v11 v12 v13) H := by
  unfold lst14 at hk ⊢
  refine s_if ?_
  repeat walk_at "k"
  refine s_if ?_
  repeat walk_at "k"
  refine s_if ?_
  repeat walk_at "k"
  refine s_if ?_
  repeat walk_at "k"
  refine ⟨rfl, ?_⟩
  repeat walk_at "k"
  refine k_parse kn (by omega) (by omega) fun fp H kn => ?_
  repeat walk_at "k"
  exact hk _ ((kn.weak (by repeat (first | with_reducible exact Ent.r | apply Ent.t))).only (by repeat (first | with_reducible exact Has.h | apply Has.t)))
/-- the drawn slots -/
def SlotsOk (n : Int) (zs : List Int) : Prop := zs.length ≤ 9 ∧ ∀ z ∈ zs, 0 ≤ z ∧ z < 2 * n
theorem seg_C (cx : CxI P w K mg base 7 v_law v_law g_law E X) (cn : CxN n_law ns_law X) (T : FrT K w mg C d) (D2 : Df P w K mg base "_law_draw" 1 ["_law_source_here", "_law_bound"] spDraw) (D5 : Df P w K mg base "_law_slots_right" 2 ["_law_frame_here", "_law_pieces", "_law_slot"] (spSlots C))
    (n0 : 1 ≤ n) (n1 : n ≤ 1000000000000000000) (c0 : 0 ≤ c) (c1 : c ≤ 1000000) (eg : Ent R (Ex g (.tup [.int n, .str (en f), .str (en b)]))) (ef : Ent R (IsFr C fa n f b)) (kn : Kn R [(s, IsSrc c)] [] H)
    (hk : ∀ v7 H', Kn R [(s, IsSrc (c + 5))] [] H' → Wss X rest ⟨nx, rt, bk, ct⟩ (lst14 a s g fa i m n f b v7 v10 v11 v12 v13) H') : Wss X (ib 7 :: ib 8 :: ib 9 :: rest) ⟨nx, rt, bk, ct⟩ (lst14 a s g fa i m n f b v7 v10 v11 v12 v13) H := by
  unfold lst14 at hk ⊢
  refine s_set cx ?_
  repeat walk_at "k"
  refine s_set cx ?_
  repeat walk_at "k"
  refine w_lc0 bo_law_0 bv_law_0 ba_law_0 bg_law_0 cx cn (by kernel_rfl) ?_
  refine wi_rng1 cx (by repeat (first | with_reducible exact In.h | apply In.t)) ?_
  repeat walk_at "k"
  refine ⟨_, rfl, by omega, by omega, _, _, _, itw_rng, fun D j acc H => ∃ zs : List Int, acc = zs.map V.int ∧ zs.length = j ∧ (∀ z ∈ zs, 0 ≤ z ∧ z < 2 * n) ∧ Kn R ((D, Is (.lst acc)) :: (p, Is (.lst [.int 0, .int (n - 1), .int n, .int (2 * n - 1)])) :: [(s, IsSrc (c + (j : Int)))]) [] H,
    ⟨_, _, _, kn, fun D H2 kn => ⟨[], rfl, rfl, by simp, kn.imp (.t (.t .h)) (IsSrc.mono (by omega))⟩⟩, fun _ _ _ _ _ _ => trivial, ?_, ?_⟩
  · rintro D j acc H hj ⟨zs, ha, hl, hz, kn⟩ X cx
    change Wg X _ _ [_, _, _, _, _, _, _, _, _, _, _, _, _, _] _ _
    refine g_name cx (by repeat (first | with_reducible exact SetAt.h | apply SetAt.t)) ?_
    refine ⟨rfl, fun X cx cn => ?_⟩
    have hj5 : j < 5 := hj
    repeat walk_at "k"
    refine k_draw (by repeat (first | with_reducible exact Put.h | apply Put.t)) kn (by omega) (by omega) (by omega) (by omega) fun v H v0 v1 kn => ?_
    refine ⟨_, _, _, kn, ?_, fun H5 kn => ⟨zs ++ [v], ?_, ?_, ?_, kn.imp (.t (.t .h)) (IsSrc.mono (by omega))⟩⟩
    · rw [ha, List.length_map]
      omega
    · rw [ha]; simp
    · simp [hl]
    · intro z hz'
      rcases List.mem_append.mp hz' with q | q
      · exact hz z q
      · have q' : z = v := by simpa using q
        omega
  · rintro D acc H ⟨zs, rfl, hl, hz, kn⟩
    refine o_cat kn (by repeat (first | with_reducible exact Has.h | apply Has.t)) (by repeat (first | with_reducible exact Has.h | apply Has.t)) ?_ fun p2 H kn => ?_
    · rw [List.length_map]
      have q : zs.length = 5 := hl
      simp only [List.length_cons, List.length_nil]
      omega
    have e2 : ([.int 0, .int (n - 1), .int n, .int (2 * n - 1)] ++ zs.map V.int : List V) = ([0, n - 1, n, 2 * n - 1] ++ zs).map V.int := by simp
    rw [e2] at kn
    have hz2 : ∀ z ∈ [0, n - 1, n, 2 * n - 1] ++ zs, 0 ≤ z ∧ z < 2 * n := by
      intro z hz'
      rcases List.mem_append.mp hz' with q | q
      · simp only [List.mem_cons, List.not_mem_nil, or_false] at q
        omega
      · exact hz z q
    generalize ([0, n - 1, n, 2 * n - 1] ++ zs) = ws at kn hz2
    repeat walk_at "k"
    replace kn := (kn.take (.t .h)).take (.t .h)
    refine s_if ?_
    refine t_cmp ?_
    refine w_lc1 bo_law_1 bv_law_1 ba_law_1 bg_law_1 cx cn (by kernel_rfl) ?_
    refine wi_lst cx ?_
    repeat walk_at "k"
    refine ⟨_, _, rfl, .inl (.inl (kn.is .h)), _, _, _, itw_list, fun D j acc H => acc = [] ∧ Kn R ((D, Is (.lst [])) :: (p2, Is (.lst (ws.map V.int))) :: [(s, IsSrc (c + 5))]) [] H,
      ⟨_, _, _, kn, fun D H2 kn => ⟨rfl, kn⟩⟩, fun D j acc H _ ⟨_, kn⟩ => .inl (.inl (kn.is (.t .h))), ?_, ?_⟩
    · rintro D j acc H hj ⟨rfl, kn⟩ X cx
      obtain ⟨z, hz3, z0, z1⟩ : ∃ z, (ws.map V.int).getD j .non = .int z ∧ 0 ≤ z ∧ z < 2 * n := by
        have hj' : j < ws.length := by simpa using hj
        refine ⟨ws[j], by simp [hj'], hz2 _ (List.getElem_mem hj')⟩
      rw [hz3]
      change Wg X _ _ [_, _, _, _, _, _, _, _, _, _, _, _, _, _] _ _
      refine g_name cx (by repeat (first | with_reducible exact SetAt.h | apply SetAt.t)) ?_
      refine ⟨rfl, fun X cx cn => ?_⟩
      repeat walk_at "k"
      refine ⟨fa, n, z, f, b, R, _, _, rfl, n0, n1, z0, z1, ef, kn, fun H kn => ?_⟩
      repeat walk_at "k"
      exact ⟨rfl, kn⟩
    · rintro D acc H ⟨rfl, kn⟩
      repeat walk_at "k"
      exact hk _ _ (kn.only (by repeat (first | with_reducible exact Has.h | apply Has.t)))
theorem seg_D (cx : CxI P w K mg base 7 v_law v_law g_law E X) (T : FrT K w mg C d) (q : FrQ K C fe fr) (ME : MtA P w K mg base fe 1 ["self", "other"] (spFrEq C))
    (D3 : Df P w K mg base "_law_frame" 2 ["_law_source_here", "_law_most"] spLawFrame) (D4 : Df P w K mg base "_law_made" 3 ["_law_given"] (spLawMade C)) (m0 : 1 ≤ m) (m1 : m ≤ 1000000000000000000)
    (n0 : 1 ≤ n) (n1 : n ≤ 1000000000000000000) (c0 : 0 ≤ c) (c1 : c ≤ 1000000) (eg : Ent R (Ex g (.tup [.int n, .str (en f), .str (en b)]))) (ef : Ent R (IsFr C fa n f b)) (kn : Kn R [(s, IsSrc c)] [] H)
    (hk : ∀ v10 v11 v12 v13 H', Kn R [(s, IsSrc (c + 3))] [] H' → nx (lst14 a s g fa i m n f b v7 v10 v11 v12 v13) H') : Wss X [ib 10, ib 11, ib 12, ib 13] ⟨nx, rt, bk, ct⟩ (lst14 a s g fa i m n f b v7 v10 v11 v12 v13) H := by
  unfold lst14 at hk ⊢
  refine s_set cx ?_
  repeat walk_at "k"
  refine s_set cx ?_
  repeat walk_at "k"
  refine s_forW cx ?_
  refine wi_tup cx ?_
  repeat walk_at "k"
  refine k_lawframe (by repeat (first | with_reducible exact Put.h | apply Put.t)) kn (by omega) (by omega) (by omega) (by omega) fun p5 n5 f5 b5 H n50 n51 kn => ?_
  repeat walk_at "k"
  refine ⟨_, _, rfl, .inl (.inl (kn.get .h)), ?_⟩
  obtain ⟨R5, xs, kn, x0, x1, hl, xx⟩ : ∃ (R5 : Hp → Prop) (xs : List V), Kn R5 [(s, IsSrc (c + 3))] [] H ∧ Ent R5 R ∧ Ent R5 (Ex p (.tup xs)) ∧ xs.length = 5 ∧ ∀ j : Nat, j < 5 → ∃ o n' f' b', xs.getD j .non = .ref o ∧ Ent R5 (Ex o (.tup [.int n', .str (en f'), .str (en b')])) ∧ 1 ≤ n' ∧ n' ≤ 1000000000000000000 := by
    refine ⟨_, _, kn, by repeat (first | with_reducible exact Ent.r | apply Ent.t), Ent.h, rfl, fun j hj => ?_⟩
    match j, hj with
    | 0, _ => exact ⟨_, n, f, b, rfl, .t (.t (.t (.t (.t eg)))), by omega, by omega⟩
    | 1, _ => exact ⟨_, n, b, f, rfl, .t (.t (.t (.t .h))), by omega, by omega⟩
    | 2, _ => exact ⟨_, n % 1000000000000000000 + 1, f, b, rfl, .t (.t (.t .h)), by omega, by omega⟩
    | 3, _ => exact ⟨_, n, true, false, rfl, .t (.t .h), by omega, by omega⟩
    | 4, _ => exact ⟨_, n5, f5, b5, rfl, .t .h, by omega, by omega⟩
  have eg5 := x0.trans eg
  have ef5 := x0.trans ef
  refine ⟨_, _, _, itw_tup (xs := xs), fun j σ H => ∃ v12 v13, σ = [some (.ref a), some (.int i), some (.ref s), some (.int m), some (.ref g), some (.ref fa), some (.str (lText n f b)), v7, none, none, some (.ref _), some (.ref _), v12, v13] ∧ Kn R5 [(s, IsSrc (c + 3))] [] H,
    ⟨_, _, rfl, kn⟩, fun j σ H _ ⟨_, _, _, kn⟩ => .inl (.inl (kn.get x1)), ?_, ?_⟩
  · rintro j σ H hj ⟨v12, v13, rfl, kn⟩
    obtain ⟨o, n', f', b', ho, eo, o0, o1⟩ := xx j (by rw [← hl]; exact hj)
    rw [ho]
    repeat walk_at "k"
    refine k_lawmade kn eo (by omega) (by omega) fun fo H kn => ?_
    repeat walk_at "k"
    have hc : decide (n = n' ∧ f = f' ∧ b = b') = decide (n' = n ∧ f' = f ∧ b' = b) := by simp only [eq_comm]
    refine i_t hc ?_
    repeat walk_at "k"
    have hd : ¬ ((!decide (n = n' ∧ f = f' ∧ b = b')) = decide (n' = n ∧ f' = f ∧ b' = b)) := by
      rw [← hc]
      cases decide (n = n' ∧ f = f' ∧ b = b') <;> simp
    refine i_f hd ?_
    repeat walk_at "k"
    exact ⟨_, _, rfl, kn.weak (.t .r)⟩
  · rintro σ H ⟨v12, v13, rfl, kn⟩
    refine s_if ?_
    repeat walk_at "k"
    exact hk _ _ _ _ _ (kn.weak x0)
end

end
end U

namespace U
section
open PySem PySem.Spec L2
open PySem.W (findIn isFn mroIn Looks InstAt)
open PyProof.Rows hiding St
set_option hygiene false
local macro_rules | `(tactic| walk_at "k") => `(tactic| first
  | (with_reducible refine ck_e ?_; first
    | with_reducible refine w_SIGNS cx T (by repeat (first | with_reducible exact In.h | apply In.t)) ?_
    | with_reducible refine w_Frame cx T (by repeat (first | with_reducible exact In.h | apply In.t)) ?_
    | with_reducible refine w_call cx (by repeat (first | with_reducible exact In.h | apply In.t)) D1 (by kernel_rfl) ?_
    | with_reducible refine w_call cx (by repeat (first | with_reducible exact In.h | apply In.t)) D2 (by kernel_rfl) ?_
    | with_reducible refine w_call cx (by repeat (first | with_reducible exact In.h | apply In.t)) D3 (by kernel_rfl) ?_
    | with_reducible refine w_call cx (by repeat (first | with_reducible exact In.h | apply In.t)) D4 (by kernel_rfl) ?_
    | with_reducible refine w_call cx (by repeat (first | with_reducible exact In.h | apply In.t)) D5 (by kernel_rfl) ?_
    | with_reducible refine w_cmeth cx CP (by kernel_rfl) ?_
    | with_reducible refine w_var cx (by repeat (first | with_reducible exact SlotIs.h | apply SlotIs.t)) ?_
    | with_reducible refine w_int ?_
    | with_reducible refine w_bin ?_
    | with_reducible refine w_ix ?_
    | with_reducible refine w_cmp ?_
    | with_reducible refine w_str ?_
    | with_reducible refine w_tupK ?_
    | with_reducible refine w_lstK ?_
    | with_reducible refine w_len cx (by repeat (first | with_reducible exact In.h | apply In.t)) ?_
    | with_reducible refine w_max cx (by repeat (first | with_reducible exact In.h | apply In.t)) ?_
    | with_reducible refine w_min cx (by repeat (first | with_reducible exact In.h | apply In.t)) ?_
    | with_reducible refine w_abs cx (by repeat (first | with_reducible exact In.h | apply In.t)) ?_
    | with_reducible refine w_repr cx (by repeat (first | with_reducible exact In.h | apply In.t)) ?_
    | with_reducible refine w_isinstance cx (by repeat (first | with_reducible exact In.h | apply In.t)) ?_
    | with_reducible refine w_sorted cx (by repeat (first | with_reducible exact In.h | apply In.t)) ?_
    | with_reducible refine w_all cx (by repeat (first | with_reducible exact In.h | apply In.t)) ?_
    | with_reducible refine w_any cx (by repeat (first | with_reducible exact In.h | apply In.t)) ?_
    | with_reducible refine w_sum cx (by repeat (first | with_reducible exact In.h | apply In.t)) ?_
    | with_reducible refine w_intT cx (by repeat (first | with_reducible exact In.h | apply In.t)) ?_
    | with_reducible refine w_strT cx (by repeat (first | with_reducible exact In.h | apply In.t)) ?_
    | with_reducible refine w_tupleT cx (by repeat (first | with_reducible exact In.h | apply In.t)) ?_
    | with_reducible refine w_listT cx (by repeat (first | with_reducible exact In.h | apply In.t)) ?_
    | with_reducible refine w_dictT cx (by repeat (first | with_reducible exact In.h | apply In.t)) ?_
    | with_reducible refine w_boolT cx (by repeat (first | with_reducible exact In.h | apply In.t)) ?_
    | with_reducible refine w_attr ?_
    | with_reducible refine w_un ?_
    | with_reducible refine w_chain ?_
    | with_reducible refine w_and ?_
    | with_reducible refine w_or ?_
    | with_reducible refine w_bool1 ?_
    | with_reducible refine w_not ?_
    | with_reducible refine w_if ?_
    | with_reducible refine w_bl ?_
    | with_reducible refine w_non ?_
    | with_reducible refine w_joined ?_
    | with_reducible refine w_joined1 ?_
    | with_reducible refine w_fmt ?_)
  | (with_reducible refine ck_a ?_; first
    | with_reducible refine wa_cons ?_
    | with_reducible refine wa_nil ?_)
  | (with_reducible refine ck_s ?_; first
    | with_reducible refine s_fld cx T.cl T.n1 ?_
    | with_reducible refine s_fld cx T.cl T.n2 ?_
    | with_reducible refine s_fld cx T.cl T.n3 ?_
    | with_reducible refine s_fld cx T.cl T.n4 ?_
    | with_reducible refine s_fld cx T.cl T.n5 ?_
    | with_reducible refine s_set cx ?_
    | with_reducible refine s_if ?_
    | with_reducible refine s_ret ?_
    | with_reducible refine s_nil ?_
    | with_reducible refine s_expr ?_
    | with_reducible refine s_asg ?_
    | with_reducible refine s_pass ?_
    | with_reducible refine s_break ?_
    | with_reducible refine s_cont ?_
    | with_reducible refine s_retN ?_)
  | (with_reducible refine ck_o ?_; first
    | with_reducible refine o_ninSg cx T ?_
    | with_reducible refine o_eqFr cx q ME (by kernel_rfl) (by with_reducible assumption) (by repeat (first | with_reducible assumption | with_reducible exact Ent.h | apply Ent.t)) (by repeat (first | with_reducible assumption | with_reducible exact Ent.h | apply Ent.t)) (fun H kn => ?_)
    | with_reducible refine o_neFr cx q ME (by kernel_rfl) (by with_reducible assumption) (by repeat (first | with_reducible assumption | with_reducible exact Ent.h | apply Ent.t)) (by repeat (first | with_reducible assumption | with_reducible exact Ent.h | apply Ent.t)) (fun H kn => ?_)
    | with_reducible refine o_eqFrT cx q ME (by kernel_rfl) (by with_reducible assumption) (by repeat (first | with_reducible assumption | with_reducible exact Ent.h | apply Ent.t)) (by repeat (first | with_reducible assumption | with_reducible exact Ent.h | apply Ent.t)) (fun H kn => ?_)
    | with_reducible refine o_eqFrS cx q ME (by kernel_rfl) (by with_reducible assumption) (by repeat (first | with_reducible assumption | with_reducible exact Ent.h | apply Ent.t)) (fun H kn => ?_)
    | with_reducible refine o_eqG cx (by with_reducible assumption) (by repeat (first | with_reducible assumption | with_reducible exact Ent.h | apply Ent.t)) (by repeat (first | with_reducible assumption | with_reducible exact Ent.h | apply Ent.t)) ?_
    | with_reducible refine o_neG cx (by with_reducible assumption) (by repeat (first | with_reducible assumption | with_reducible exact Ent.h | apply Ent.t)) (by repeat (first | with_reducible assumption | with_reducible exact Ent.h | apply Ent.t)) ?_
    | with_reducible refine o_addSn (by repeat (first | with_reducible exact l_emp | with_reducible exact l_en | with_reducible exact l_sp | with_reducible assumption | with_reducible exact l_frt (by first | with_reducible assumption | exact log_ok (by omega)) | with_reducible exact l_int (by first | with_reducible assumption | exact log_ok (by omega)) | with_reducible apply l_app | with_reducible exact Nat.le_refl _)) (by repeat (first | with_reducible exact l_emp | with_reducible exact l_en | with_reducible exact l_sp | with_reducible assumption | with_reducible exact l_frt (by first | with_reducible assumption | exact log_ok (by omega)) | with_reducible exact l_int (by first | with_reducible assumption | exact log_ok (by omega)) | with_reducible apply l_app | with_reducible exact Nat.le_refl _)) (by kernel_rfl) ?_
    | with_reducible refine o_add ?_
    | with_reducible refine o_sub ?_
    | with_reducible refine o_lt ?_
    | with_reducible refine o_le ?_
    | with_reducible refine o_gt ?_
    | with_reducible refine o_ge ?_
    | with_reducible refine o_eqI ?_
    | with_reducible refine o_neI ?_
    | with_reducible refine o_eqS ?_
    | with_reducible refine o_neS ?_
    | with_reducible refine o_neB ?_
    | with_reducible refine o_eqB ?_
    | with_reducible refine o_isN ?_
    | with_reducible refine o_notN ?_
    | with_reducible refine o_mod (by omega) ?_
    | with_reducible refine o_mulL (by omega) ?_
    | with_reducible refine o_mulR (by omega) ?_
    | with_reducible refine o_fdiv (by omega) ?_
    | with_reducible refine o_pow (by simp only [Int.reduceToNat, Int.reducePow]; first | done | rfl) (by omega) (by decide +kernel) ?_
    | with_reducible refine o_neL0 cx (by with_reducible assumption) (by repeat (first | with_reducible assumption | with_reducible exact Has.h | apply Has.t)) (by repeat (first | with_reducible assumption | with_reducible exact Has.h | apply Has.t)) ?_
    | with_reducible refine o_fdivB (by omega) ?_)
  | (with_reducible refine ck_c ?_; first
    | with_reducible refine c_reprFr cx q MR (by kernel_rfl) (by with_reducible assumption) (by repeat (first | with_reducible assumption | with_reducible exact Ent.h | apply Ent.t)) (by first | with_reducible assumption | exact log_ok (by omega)) (fun H kn => ?_)
    | with_reducible refine c_reprI sgsg_ok ?_
    | with_reducible refine c_strI (by first | with_reducible assumption | exact log_ok (by omega)) ?_
    | with_reducible refine c_reprI (by first | with_reducible assumption | exact log_ok (by omega)) ?_
    | with_reducible refine c_lenS (Nat.le_trans (by repeat (first | with_reducible exact l_emp | with_reducible exact l_en | with_reducible exact l_sp | with_reducible assumption | with_reducible exact l_frt (by first | with_reducible assumption | exact log_ok (by omega)) | with_reducible exact l_int (by first | with_reducible assumption | exact log_ok (by omega)) | with_reducible apply l_app | with_reducible exact Nat.le_refl _)) (Nat.le_of_ble_eq_true (by kernel_rfl))) ?_
    | with_reducible refine c_max cx ?_
    | with_reducible refine c_min cx ?_
    | with_reducible refine c_abs ?_
    | with_reducible refine c_intI ?_
    | with_reducible refine c_intB ?_
    | with_reducible refine c_strS ?_
    | with_reducible refine c_lenT (by with_reducible assumption) (by repeat (first | with_reducible assumption | with_reducible exact Ent.h | apply Ent.t)) ?_
    | with_reducible refine c_lenL (by with_reducible assumption) (by repeat (first | with_reducible assumption | with_reducible exact Has.h | apply Has.t)) ?_
    | with_reducible refine c_lenX (by with_reducible assumption) (by repeat (first | with_reducible assumption | with_reducible exact Ent.h | apply Ent.t)) ?_
    | with_reducible refine c_lenQ cx (by with_reducible assumption) (by repeat (first | with_reducible assumption | with_reducible exact Ent.h | apply Ent.t)) ?_)
  | (with_reducible refine ck_x ?_; first
    | with_reducible refine x_Sg cx T ?_
    | with_reducible refine x_lst (by with_reducible assumption) (by repeat (first | with_reducible assumption | with_reducible exact Has.h | apply Has.t)) turn_at ?_
    | with_reducible refine x_tup (by with_reducible assumption) (by repeat (first | with_reducible assumption | with_reducible exact Ent.h | apply Ent.t)) (by first | with_reducible exact at0 | with_reducible exact at1 | with_reducible exact at2) ?_
    | with_reducible refine x_lst (by with_reducible assumption) (by repeat (first | with_reducible assumption | with_reducible exact Has.h | apply Has.t)) (by first | with_reducible exact at0 | with_reducible exact at1 | with_reducible exact at2) ?_
    | with_reducible refine x_lstX (by with_reducible assumption) (by repeat (first | with_reducible assumption | with_reducible exact Ent.h | apply Ent.t)) (by first | with_reducible exact at0 | with_reducible exact at1 | with_reducible exact at2) ?_)
  | (with_reducible refine ck_at ?_; first
    | with_reducible refine at_most cx T ?_
    | with_reducible refine at_pieces cx T (by with_reducible assumption) (by repeat (first | with_reducible assumption | with_reducible exact Ent.h | apply Ent.t)) ?_
    | with_reducible refine at_front cx T (by with_reducible assumption) (by repeat (first | with_reducible assumption | with_reducible exact Ent.h | apply Ent.t)) ?_
    | with_reducible refine at_back cx T (by with_reducible assumption) (by repeat (first | with_reducible assumption | with_reducible exact Ent.h | apply Ent.t)) ?_
    | with_reducible refine at_fs cx T (by with_reducible assumption) (by repeat (first | with_reducible assumption | with_reducible exact Ent.h | apply Ent.t)) ?_
    | with_reducible refine at_bs cx T (by with_reducible assumption) (by repeat (first | with_reducible assumption | with_reducible exact Ent.h | apply Ent.t)) ?_
    | with_reducible refine at_slots cx T PS (by kernel_rfl) (by with_reducible assumption) (by repeat (first | with_reducible assumption | with_reducible exact Ent.h | apply Ent.t)) (fun H kn => ?_)
    | with_reducible refine at_turn cx T PU (by kernel_rfl) (by with_reducible assumption) (by repeat (first | with_reducible assumption | with_reducible exact Ent.h | apply Ent.t)) (fun H kn => ?_)
    | with_reducible refine at_text cx T PT (by kernel_rfl) (by with_reducible assumption) (by repeat (first | with_reducible assumption | with_reducible exact Ent.h | apply Ent.t)) (by first | with_reducible assumption | exact log_ok (by omega)) (fun H kn => ?_))
  | (with_reducible refine ck_t ?_; first
    | with_reducible refine t_cmp ?_
    | with_reducible refine t_chain ?_
    | with_reducible refine t_not ?_
    | with_reducible refine t_and ?_
    | with_reducible refine t_or ?_
    | with_reducible refine t_val ?_)
  | (with_reducible refine ck_w ?_; first
    | with_reducible refine ww_and ?_
    | with_reducible refine ww_or ?_
    | with_reducible refine ww_and1 ?_
    | with_reducible refine ww_or1 ?_)
  | (with_reducible refine ck_p ?_; first
    | with_reducible refine p_l0 (by with_reducible assumption) (by repeat (first | with_reducible assumption | with_reducible exact Put.h | apply Put.t)) ?_
    | with_reducible refine p_l1 (by with_reducible assumption) (by repeat (first | with_reducible assumption | with_reducible exact Put.h | apply Put.t)) ?_
    | with_reducible refine p_l2 (by with_reducible assumption) (by repeat (first | with_reducible assumption | with_reducible exact Put.h | apply Put.t)) ?_)
  | (with_reducible refine ck_f ?_; first
    | with_reducible refine f_fr cx q MR (by kernel_rfl) (by with_reducible assumption) (by repeat (first | with_reducible assumption | with_reducible exact Ent.h | apply Ent.t)) (by first | with_reducible assumption | exact log_ok (by omega)) (fun H kn => ?_)
    | with_reducible refine f_str (Nat.le_trans (by repeat (first | with_reducible exact l_emp | with_reducible exact l_en | with_reducible exact l_sp | with_reducible assumption | with_reducible exact l_frt (by first | with_reducible assumption | exact log_ok (by omega)) | with_reducible exact l_int (by first | with_reducible assumption | exact log_ok (by omega)) | with_reducible apply l_app | with_reducible exact Nat.le_refl _)) (Nat.le_of_ble_eq_true (by kernel_rfl))) ?_
    | with_reducible refine f_int (by first | with_reducible assumption | exact log_ok (by omega)) ?_)
  | (with_reducible refine ck_j ?_; first
    | with_reducible refine wj_nil ?_
    | with_reducible refine wj_cons ?_)
  | (with_reducible refine ck_g ?_; first
    | with_reducible refine g_name cx (by repeat (first | with_reducible exact SetAt.h | apply SetAt.t)) ?_
    | with_reducible refine g_sub ?_)
  | with_reducible refine k_Frame (by with_reducible assumption) (by omega) (by omega) (fun p H kn => ?_)
  | with_reducible refine i_t frText_eq ?_
  | with_reducible refine i_t frRepr_eq ?_
  | with_reducible refine k_sj (by repeat (first | with_reducible exact l_emp | with_reducible exact l_en | with_reducible exact l_sp | with_reducible assumption | with_reducible exact l_frt (by first | with_reducible assumption | exact log_ok (by omega)) | with_reducible exact l_int (by first | with_reducible assumption | exact log_ok (by omega)) | with_reducible apply l_app | with_reducible exact Nat.le_refl _)) (by kernel_rfl) ?_
  | with_reducible refine k_set (by repeat (first | with_reducible exact SetAt.h | apply SetAt.t)) ?_
  | with_reducible refine k_bl ?_
  | with_reducible refine iteT ?_
  | with_reducible refine iteF ?_
  | with_reducible refine i_not ?_
  | with_reducible refine i_t (by with_reducible rfl) ?_
  | with_reducible refine i_t ⟨rfl, rfl, rfl⟩ ?_
  | with_reducible refine i_t (by with_reducible assumption) ?_
  | with_reducible refine i_f (by with_reducible assumption) ?_
  | with_reducible refine i_t (by omega) ?_
  | with_reducible refine i_f (by omega) ?_
  | with_reducible refine i_t (by simp only [List.length_cons, List.length_nil]; omega) ?_
  | with_reducible refine i_f (by simp only [List.length_cons, List.length_nil]; omega) ?_
  | with_reducible refine o_neg ?_
  | with_reducible refine k_sfld (by with_reducible assumption) (by repeat (first | with_reducible assumption | with_reducible exact Put.h | apply Put.t)) (by repeat (first | with_reducible exact FL.z | apply FL.s)) (by with_unfolding_all rfl) ?_
  | with_reducible refine gs_nil ?_
  | with_reducible refine gs_cons ?_
  | (with_reducible refine ⟨_, _, _, (by with_reducible assumption), (by with_unfolding_all exact Nat.le_of_ble_eq_true rfl), ?_⟩; intro p H kn)
  | (with_reducible intro H kn))
/-! k02: the law -/
def spLaw (K : PySem.W.Frag) : Sp := fun vs H Q _ => ∃ (a : Addr) (ns : List Int), vs = [.ref a] ∧ SqL K H a (ns.map V.int) ∧ ns.length ≤ 63 ∧ ∀ H', Q (.bl true) H'
section
variable {P : Program} {w : World} {K : PySem.W.Frag} {mg : Str → Option Value} {base : Heap} {C d fe fr : Addr}
theorem ok_law {fa : Addr} {fd : FuncData} (F : Fun K "law" "law" s_law fa fd) (bl : ∀ x ∈ blts, mg x = none) (T : FrT K w mg C d) (q : FrQ K C fe fr) (D1 : Df P w K mg base "_law_source" 1 ["_law_script", "_law_index"] (spSource K)) (D2 : Df P w K mg base "_law_draw" 1 ["_law_source_here", "_law_bound"] spDraw)
    (D3 : Df P w K mg base "_law_frame" 2 ["_law_source_here", "_law_most"] spLawFrame) (D4 : Df P w K mg base "_law_made" 3 ["_law_given"] (spLawMade C)) (D5 : Df P w K mg base "_law_slots_right" 2 ["_law_frame_here", "_law_pieces", "_law_slot"] (spSlots C))
    (PT : Pr P w K mg base C "text" 1 (spFrText C)) (PS : Pr P w K mg base C "slots" 1 (spFr0 C fun n _ _ => .int (2 * n))) (PU : Pr P w K mg base C "turn" 1 (spFr0 C fun _ f b => .int (sgn f * sgn b))) (MR : MtA P w K mg base fr 3 ["self"] (spFrRepr C)) (ME : MtA P w K mg base fe 1 ["self", "other"] (spFrEq C))
    (CP : Cm P w K mg base C "parse" 3 ["cls", "text"] (spParse C)) : Fk P w K mg base 8 fa fd ["_law_script"] (spLaw K) := by
  refine fn_okC F sc_law nq_law ck_law bl (fun vs H Q E h => ?_) (fun X H vs Q E cx cn h => ?_)
  · obtain ⟨a, ns, rfl, _⟩ := h
    rfl
  · obtain ⟨a, ns, rfl, hS, hlen, k⟩ := h
    obtain ⟨R0, kn, e0⟩ : ∃ R0, Kn R0 [] [] H ∧ Ent R0 (fun J => SqL K J a (ns.map V.int)) := ⟨_, Kn.start hS, .r⟩
    clear hS
    change Wss X _ _ [_, _, _, _, _, _, _, _, _, _, _, _, _, _] _
    refine s_forW cx ?_
    refine wi_rng1 cx (by repeat (first | with_reducible exact In.h | apply In.t)) ?_
    repeat walk_at "k"
    refine ⟨_, rfl, by (repeat' split) <;> omega, by (repeat' split) <;> omega, _, _, _, itw_rng, fun i σ H => ∃ v1 v2 v3 v4 v5 v6 v7 v10 v11 v12 v13, σ = [some (.ref a), v1, v2, v3, v4, v5, v6, v7, none, none, v10, v11, v12, v13] ∧ Kn R0 [] [] H, ⟨_, _, _, _, _, _, _, _, _, _, _, rfl, kn⟩, fun _ _ _ _ _ => trivial, ?_, ?_⟩
    · rintro i σ H hi ⟨v1, v2, v3, v4, v5, v6, v7, v10, v11, v12, v13, rfl, kn⟩
      have hi4 : i ≤ 4 := by
        have z : i < ((if (if (ns.map V.int).length < (4 : Int) then ((ns.map V.int).length : Int) else 4) > 1 then (if ((ns.map V.int).length : Int) < 4 then ((ns.map V.int).length : Int) else 4) else 1 : Int)).toNat := hi
        revert z
        (repeat' split) <;> omega
      repeat walk_at "k"
      refine k_source (by omega) (by omega) (by omega) e0 kn fun s H kn => ?_
      repeat walk_at "k"
      refine s_forW cx ?_
      refine wi_tup cx ?_
      repeat walk_at "k"
      refine ⟨_, _, rfl, .inl (.inl (kn.get .h)), _, _, _, itw_tup, fun j σ H => ∃ v3 v4 v5 v6 v7 v10 v11 v12 v13, σ = [some (.ref a), some (.int (0 + (i : Int))), some (.ref s), v3, v4, v5, v6, v7, none, none, v10, v11, v12, v13] ∧ Kn (Cj (Ex p (.tup [.int 5, .int 1000000000000000000])) R0) [(s, IsSrc (1000 * (j : Int)))] [] H,
        ⟨_, _, _, _, _, _, _, _, _, rfl, kn.imp .h (IsSrc.mono (by omega))⟩, fun j σ H _ ⟨_, _, _, _, _, _, _, _, _, _, kn⟩ => .inl (.inl (kn.get .h)), ?_, ?_⟩
      · rintro j σ H hj ⟨v3, v4, v5, v6, v7, v10, v11, v12, v13, rfl, kn⟩
        obtain ⟨m, hm, m0, m1⟩ : ∃ m : Int, [V.int 5, V.int 1000000000000000000].getD j .non = .int m ∧ 5 ≤ m ∧ m ≤ 1000000000000000000 := by
          match j, hj with
          | 0, _ => exact ⟨5, rfl, by omega, by omega⟩
          | 1, _ => exact ⟨_, rfl, by omega, by omega⟩
        rw [hm]
        have hj2 : j < 2 := hj
        have e1 : Ent (Cj (Ex p (.tup [.int 5, .int 1000000000000000000])) R0) R0 := .t .r
        generalize hR1 : Cj (Ex p (.tup [.int 5, .int 1000000000000000000])) R0 = R1 at kn e1
        replace e1 := e1.trans e0
        refine g_name cx (by repeat (first | with_reducible exact SetAt.h | apply SetAt.t)) ?_
        change Wss X [ib 0, ib 1, ib 2, ib 3, ib 4, ib 5, ib 6, ib 7, ib 8, ib 9, ib 10, ib 11, ib 12, ib 13] _ _ _
        refine s_set cx ?_
        repeat walk_at "k"
        refine k_lawframe (by repeat (first | with_reducible exact Put.h | apply Put.t)) kn (by omega) (by omega) (by omega) (by omega) fun g n f b H n0 n1 kn => ?_
        repeat walk_at "k"
        refine s_set cx ?_
        repeat walk_at "k"
        refine k_lawmade kn .h (by omega) (by omega) fun fa H kn => ?_
        repeat walk_at "k"
        refine s_set cx ?_
        repeat walk_at "k"
        refine seg_B (n := n) (f := f) (b := b) cx T q PT PS PU MR ME CP (by omega) (by omega) (.t .h) .h kn fun H kn => ?_
        refine seg_C cx cn T D2 D5 (by omega) (by omega) (by omega) (by omega) (.t .h) .h kn fun v7 H kn => ?_
        refine seg_D cx T q ME D3 D4 (by omega) (by omega) (by omega) (by omega) (by omega) (by omega) (.t .h) .h kn fun v10 v11 v12 v13 H kn => ?_
        subst hR1
        exact ⟨_, _, _, _, _, _, _, _, _, rfl, (kn.weak (.t (.t .r))).imp .h (IsSrc.mono (by omega))⟩
      · rintro σ H ⟨v3, v4, v5, v6, v7, v10, v11, v12, v13, rfl, kn⟩
        repeat walk_at "k"
        exact ⟨_, _, _, _, _, _, _, _, _, _, _, rfl, (kn.weak (.t .r)).none⟩
    · rintro σ H ⟨v1, v2, v3, v4, v5, v6, v7, v10, v11, v12, v13, rfl, kn⟩
      repeat walk_at "k"
      rw [decide_eq_true rfl]
      exact k _
end

end
end U

namespace U
section
open PySem PySem.Spec L2
open PySem.W (findIn isFn mroIn Looks InstAt)
open PyProof.Rows hiding St
theorem all_mk {l : PySem.W.OpenLaw} {w : World} {K : PySem.W.Frag} {h : Heap} {mg : Str → Option Value} {fa f_number_of f_Frame_init f_Frame_parse p_Frame_parse f_Frame_slots p_Frame_slots f_Frame_turn p_Frame_turn f_Frame_text p_Frame_text f_Frame_slot_of f_Frame_pulse_at f_Frame_eq f_Frame_repr f_source f_draw f_frame f_made f_slots_right f_law : Addr} {C_Frame d : Addr} {es : Array DictEntry} {n : Nat} {t1 t2 t3 t4 t5 : Tok} {od_number_of an_number_of od_Frame_init an_Frame_init od_Frame_parse an_Frame_parse od_Frame_slots an_Frame_slots od_Frame_turn an_Frame_turn od_Frame_text an_Frame_text od_Frame_slot_of an_Frame_slot_of od_Frame_pulse_at an_Frame_pulse_at od_Frame_eq an_Frame_eq od_Frame_repr an_Frame_repr od_source an_source od_draw an_draw od_frame an_frame od_made an_made od_slots_right an_slots_right od_law an_law : Option Addr} {sl_number_of sl_Frame_init sl_Frame_parse sl_Frame_slots sl_Frame_turn sl_Frame_text sl_Frame_slot_of sl_Frame_pulse_at sl_Frame_eq sl_Frame_repr sl_source sl_draw sl_frame sl_made sl_slots_right sl_law : Array (Option Value)} {oc_number_of kV_number_of dc_number_of pm_number_of cd_number_of ct_number_of oc_Frame_init kV_Frame_init dc_Frame_init pm_Frame_init cd_Frame_init ct_Frame_init oc_Frame_parse kV_Frame_parse dc_Frame_parse pm_Frame_parse cd_Frame_parse ct_Frame_parse oc_Frame_slots kV_Frame_slots dc_Frame_slots pm_Frame_slots cd_Frame_slots ct_Frame_slots oc_Frame_turn kV_Frame_turn dc_Frame_turn pm_Frame_turn cd_Frame_turn ct_Frame_turn oc_Frame_text kV_Frame_text dc_Frame_text pm_Frame_text cd_Frame_text ct_Frame_text oc_Frame_slot_of kV_Frame_slot_of dc_Frame_slot_of pm_Frame_slot_of cd_Frame_slot_of ct_Frame_slot_of oc_Frame_pulse_at kV_Frame_pulse_at dc_Frame_pulse_at pm_Frame_pulse_at cd_Frame_pulse_at ct_Frame_pulse_at oc_Frame_eq kV_Frame_eq dc_Frame_eq pm_Frame_eq cd_Frame_eq ct_Frame_eq oc_Frame_repr kV_Frame_repr dc_Frame_repr pm_Frame_repr cd_Frame_repr ct_Frame_repr oc_source kV_source dc_source pm_source cd_source ct_source oc_draw kV_draw dc_draw pm_draw cd_draw ct_draw oc_frame kV_frame dc_frame pm_frame cd_frame ct_frame oc_made kV_made dc_made pm_made cd_made ct_made oc_slots_right kV_slots_right dc_slots_right pm_slots_right cd_slots_right ct_slots_right oc_law kV_law dc_law pm_law cd_law ct_law : Value} (X : K.In h) (G : h.Ns mainGlobals mg) (hfa : mg "law" = some (.ref fa))
    (ac_Frame : PySem.W.nsIn K mainGlobals "Frame" = some (some (.ref C_Frame)))
    (pg_Frame : PySem.W.plainGet K C_Frame Str.empty = true)
    (hd_Frame : PySem.W.hasDictIn K C_Frame = true)
    (po_Frame : PySem.W.plainOver K C_Frame = true)
    (sa_Frame : findIn K (.ref C_Frame) "__setattr__" = some (some (.builtin "object.__setattr__")))
    (mk_Frame : PySem.W.makesIn K C_Frame = true)
    (kc_Frame : PySem.W.keepIn K (.ref C_Frame) = true)
    (rd_Frame : PySem.W.readsIn K C_Frame (.type "type") = true)
    (ga_Frame : PySem.W.specialIn K (.ref C_Frame) "__getattribute__" = some (some (.builtin "type.__getattribute__")))
    (a_number_of : PySem.W.nsIn K mainGlobals "number_of" = some (some (.ref f_number_of)))
    (l_number_of : K.lookup f_number_of = some ⟨oc_number_of, od_number_of, .func (PySem.W.fnOf "number_of" "number_of" (defArgs s_number_of) (defBody s_number_of) (defScope s_number_of) .none kV_number_of dc_number_of pm_number_of an_number_of cd_number_of ct_number_of), sl_number_of⟩)
    (c_number_of : PySem.W.codeIn K cd_number_of "number_of" = true)
    (k_number_of : PySem.W.keepIn K (.ref f_number_of) = true)
    (a_Frame_init : findIn K (.ref C_Frame) "__init__" = some (some (.ref f_Frame_init)))
    (i_Frame_init : isFn K (.ref f_Frame_init) = true)
    (l_Frame_init : K.lookup f_Frame_init = some ⟨oc_Frame_init, od_Frame_init, .func (PySem.W.fnOf "__init__" "Frame.__init__" (defArgs s_Frame_init) (defBody s_Frame_init) (defScope s_Frame_init) .none kV_Frame_init dc_Frame_init pm_Frame_init an_Frame_init cd_Frame_init ct_Frame_init), sl_Frame_init⟩)
    (c_Frame_init : PySem.W.codeIn K cd_Frame_init "Frame.__init__" = true)
    (k_Frame_init : PySem.W.keepIn K (.ref f_Frame_init) = true)
    (a_Frame_parse : PySem.W.findCls K (.ref C_Frame) (.type "type") "parse" = some (.get (.builtin "classmethod.__get__") (.ref p_Frame_parse) .none (.ref C_Frame)))
    (r_Frame_parse : ∃ rest, PySem.W.recIn K p_Frame_parse "classmethod" = some (.ref f_Frame_parse :: rest))
    (i_Frame_parse : PySem.W.fnIn K f_Frame_parse = true)
    (l_Frame_parse : K.lookup f_Frame_parse = some ⟨oc_Frame_parse, od_Frame_parse, .func (PySem.W.fnOf "parse" "Frame.parse" (defArgs s_Frame_parse) (defBody s_Frame_parse) (defScope s_Frame_parse) .none kV_Frame_parse dc_Frame_parse pm_Frame_parse an_Frame_parse cd_Frame_parse ct_Frame_parse), sl_Frame_parse⟩)
    (c_Frame_parse : PySem.W.codeIn K cd_Frame_parse "Frame.parse" = true)
    (k_Frame_parse : PySem.W.keepIn K (.ref f_Frame_parse) = true)
    (a_Frame_slots : findIn K (.ref C_Frame) "slots" = some (some (.ref p_Frame_slots)))
    (g_Frame_slots : PySem.W.specialIn K (.ref p_Frame_slots) "__get__" = some (some (.builtin "property.__get__")))
    (t_Frame_slots : PySem.W.takesIn K (.ref p_Frame_slots) = some true)
    (r_Frame_slots : ∃ rest, PySem.W.recIn K p_Frame_slots "property" = some (.ref f_Frame_slots :: rest))
    (l_Frame_slots : K.lookup f_Frame_slots = some ⟨oc_Frame_slots, od_Frame_slots, .func (PySem.W.fnOf "slots" "Frame.slots" (defArgs s_Frame_slots) (defBody s_Frame_slots) (defScope s_Frame_slots) .none kV_Frame_slots dc_Frame_slots pm_Frame_slots an_Frame_slots cd_Frame_slots ct_Frame_slots), sl_Frame_slots⟩)
    (c_Frame_slots : PySem.W.codeIn K cd_Frame_slots "Frame.slots" = true)
    (k_Frame_slots : PySem.W.keepIn K (.ref f_Frame_slots) = true)
    (a_Frame_turn : findIn K (.ref C_Frame) "turn" = some (some (.ref p_Frame_turn)))
    (g_Frame_turn : PySem.W.specialIn K (.ref p_Frame_turn) "__get__" = some (some (.builtin "property.__get__")))
    (t_Frame_turn : PySem.W.takesIn K (.ref p_Frame_turn) = some true)
    (r_Frame_turn : ∃ rest, PySem.W.recIn K p_Frame_turn "property" = some (.ref f_Frame_turn :: rest))
    (l_Frame_turn : K.lookup f_Frame_turn = some ⟨oc_Frame_turn, od_Frame_turn, .func (PySem.W.fnOf "turn" "Frame.turn" (defArgs s_Frame_turn) (defBody s_Frame_turn) (defScope s_Frame_turn) .none kV_Frame_turn dc_Frame_turn pm_Frame_turn an_Frame_turn cd_Frame_turn ct_Frame_turn), sl_Frame_turn⟩)
    (c_Frame_turn : PySem.W.codeIn K cd_Frame_turn "Frame.turn" = true)
    (k_Frame_turn : PySem.W.keepIn K (.ref f_Frame_turn) = true)
    (a_Frame_text : findIn K (.ref C_Frame) "text" = some (some (.ref p_Frame_text)))
    (g_Frame_text : PySem.W.specialIn K (.ref p_Frame_text) "__get__" = some (some (.builtin "property.__get__")))
    (t_Frame_text : PySem.W.takesIn K (.ref p_Frame_text) = some true)
    (r_Frame_text : ∃ rest, PySem.W.recIn K p_Frame_text "property" = some (.ref f_Frame_text :: rest))
    (l_Frame_text : K.lookup f_Frame_text = some ⟨oc_Frame_text, od_Frame_text, .func (PySem.W.fnOf "text" "Frame.text" (defArgs s_Frame_text) (defBody s_Frame_text) (defScope s_Frame_text) .none kV_Frame_text dc_Frame_text pm_Frame_text an_Frame_text cd_Frame_text ct_Frame_text), sl_Frame_text⟩)
    (c_Frame_text : PySem.W.codeIn K cd_Frame_text "Frame.text" = true)
    (k_Frame_text : PySem.W.keepIn K (.ref f_Frame_text) = true)
    (a_Frame_slot_of : findIn K (.ref C_Frame) "slot_of" = some (some (.ref f_Frame_slot_of)))
    (i_Frame_slot_of : isFn K (.ref f_Frame_slot_of) = true)
    (l_Frame_slot_of : K.lookup f_Frame_slot_of = some ⟨oc_Frame_slot_of, od_Frame_slot_of, .func (PySem.W.fnOf "slot_of" "Frame.slot_of" (defArgs s_Frame_slot_of) (defBody s_Frame_slot_of) (defScope s_Frame_slot_of) .none kV_Frame_slot_of dc_Frame_slot_of pm_Frame_slot_of an_Frame_slot_of cd_Frame_slot_of ct_Frame_slot_of), sl_Frame_slot_of⟩)
    (c_Frame_slot_of : PySem.W.codeIn K cd_Frame_slot_of "Frame.slot_of" = true)
    (k_Frame_slot_of : PySem.W.keepIn K (.ref f_Frame_slot_of) = true)
    (a_Frame_pulse_at : findIn K (.ref C_Frame) "pulse_at" = some (some (.ref f_Frame_pulse_at)))
    (i_Frame_pulse_at : isFn K (.ref f_Frame_pulse_at) = true)
    (l_Frame_pulse_at : K.lookup f_Frame_pulse_at = some ⟨oc_Frame_pulse_at, od_Frame_pulse_at, .func (PySem.W.fnOf "pulse_at" "Frame.pulse_at" (defArgs s_Frame_pulse_at) (defBody s_Frame_pulse_at) (defScope s_Frame_pulse_at) .none kV_Frame_pulse_at dc_Frame_pulse_at pm_Frame_pulse_at an_Frame_pulse_at cd_Frame_pulse_at ct_Frame_pulse_at), sl_Frame_pulse_at⟩)
    (c_Frame_pulse_at : PySem.W.codeIn K cd_Frame_pulse_at "Frame.pulse_at" = true)
    (k_Frame_pulse_at : PySem.W.keepIn K (.ref f_Frame_pulse_at) = true)
    (a_Frame_eq : findIn K (.ref C_Frame) "__eq__" = some (some (.ref f_Frame_eq)))
    (i_Frame_eq : isFn K (.ref f_Frame_eq) = true)
    (l_Frame_eq : K.lookup f_Frame_eq = some ⟨oc_Frame_eq, od_Frame_eq, .func (PySem.W.fnOf "__eq__" "Frame.__eq__" (defArgs s_Frame_eq) (defBody s_Frame_eq) (defScope s_Frame_eq) .none kV_Frame_eq dc_Frame_eq pm_Frame_eq an_Frame_eq cd_Frame_eq ct_Frame_eq), sl_Frame_eq⟩)
    (c_Frame_eq : PySem.W.codeIn K cd_Frame_eq "Frame.__eq__" = true)
    (k_Frame_eq : PySem.W.keepIn K (.ref f_Frame_eq) = true)
    (a_Frame_repr : findIn K (.ref C_Frame) "__repr__" = some (some (.ref f_Frame_repr)))
    (i_Frame_repr : isFn K (.ref f_Frame_repr) = true)
    (l_Frame_repr : K.lookup f_Frame_repr = some ⟨oc_Frame_repr, od_Frame_repr, .func (PySem.W.fnOf "__repr__" "Frame.__repr__" (defArgs s_Frame_repr) (defBody s_Frame_repr) (defScope s_Frame_repr) .none kV_Frame_repr dc_Frame_repr pm_Frame_repr an_Frame_repr cd_Frame_repr ct_Frame_repr), sl_Frame_repr⟩)
    (c_Frame_repr : PySem.W.codeIn K cd_Frame_repr "Frame.__repr__" = true)
    (k_Frame_repr : PySem.W.keepIn K (.ref f_Frame_repr) = true)
    (a_source : PySem.W.nsIn K mainGlobals "_law_source" = some (some (.ref f_source)))
    (l_source : K.lookup f_source = some ⟨oc_source, od_source, .func (PySem.W.fnOf "_law_source" "_law_source" (defArgs s_source) (defBody s_source) (defScope s_source) .none kV_source dc_source pm_source an_source cd_source ct_source), sl_source⟩)
    (c_source : PySem.W.codeIn K cd_source "_law_source" = true)
    (k_source : PySem.W.keepIn K (.ref f_source) = true)
    (a_draw : PySem.W.nsIn K mainGlobals "_law_draw" = some (some (.ref f_draw)))
    (l_draw : K.lookup f_draw = some ⟨oc_draw, od_draw, .func (PySem.W.fnOf "_law_draw" "_law_draw" (defArgs s_draw) (defBody s_draw) (defScope s_draw) .none kV_draw dc_draw pm_draw an_draw cd_draw ct_draw), sl_draw⟩)
    (c_draw : PySem.W.codeIn K cd_draw "_law_draw" = true)
    (k_draw : PySem.W.keepIn K (.ref f_draw) = true)
    (a_frame : PySem.W.nsIn K mainGlobals "_law_frame" = some (some (.ref f_frame)))
    (l_frame : K.lookup f_frame = some ⟨oc_frame, od_frame, .func (PySem.W.fnOf "_law_frame" "_law_frame" (defArgs s_frame) (defBody s_frame) (defScope s_frame) .none kV_frame dc_frame pm_frame an_frame cd_frame ct_frame), sl_frame⟩)
    (c_frame : PySem.W.codeIn K cd_frame "_law_frame" = true)
    (k_frame : PySem.W.keepIn K (.ref f_frame) = true)
    (a_made : PySem.W.nsIn K mainGlobals "_law_made" = some (some (.ref f_made)))
    (l_made : K.lookup f_made = some ⟨oc_made, od_made, .func (PySem.W.fnOf "_law_made" "_law_made" (defArgs s_made) (defBody s_made) (defScope s_made) .none kV_made dc_made pm_made an_made cd_made ct_made), sl_made⟩)
    (c_made : PySem.W.codeIn K cd_made "_law_made" = true)
    (k_made : PySem.W.keepIn K (.ref f_made) = true)
    (a_slots_right : PySem.W.nsIn K mainGlobals "_law_slots_right" = some (some (.ref f_slots_right)))
    (l_slots_right : K.lookup f_slots_right = some ⟨oc_slots_right, od_slots_right, .func (PySem.W.fnOf "_law_slots_right" "_law_slots_right" (defArgs s_slots_right) (defBody s_slots_right) (defScope s_slots_right) .none kV_slots_right dc_slots_right pm_slots_right an_slots_right cd_slots_right ct_slots_right), sl_slots_right⟩)
    (c_slots_right : PySem.W.codeIn K cd_slots_right "_law_slots_right" = true)
    (k_slots_right : PySem.W.keepIn K (.ref f_slots_right) = true)
    (a_law : PySem.W.nsIn K mainGlobals "law" = some (some (.ref f_law)))
    (l_law : K.lookup f_law = some ⟨oc_law, od_law, .func (PySem.W.fnOf "law" "law" (defArgs s_law) (defBody s_law) (defScope s_law) .none kV_law dc_law pm_law an_law cd_law ct_law), sl_law⟩)
    (c_law : PySem.W.codeIn K cd_law "law" = true)
    (k_law : PySem.W.keepIn K (.ref f_law) = true)
    (n_Frame_pieces : findIn K (.ref C_Frame) "pieces" = some none)
    (n_Frame_front : findIn K (.ref C_Frame) "front" = some none)
    (n_Frame_back : findIn K (.ref C_Frame) "back" = some none)
    (n_Frame_front_sign : findIn K (.ref C_Frame) "front_sign" = some none)
    (n_Frame_back_sign : findIn K (.ref C_Frame) "back_sign" = some none)
    (ag_SIGNS : PySem.W.nsIn K mainGlobals "SIGNS" = some (some (.ref d)))
    (lk_SIGNS : K.lookup d = some ⟨.type "dict", none, .dict es n, #[]⟩)
    (kl_SIGNS : PySem.W.KeysLit w.params es.toList)
    (sm_SIGNS : (d == sysModules) = false)
    (fx_SIGNS : PySem.W.nsIn K d "fixed" = some (some (.int (-1) t1)))
    (fr_SIGNS : PySem.W.nsIn K d "free" = some (some (.int 1 t2)))
    (no_SIGNS : ∀ z : Str, ¬ (z = "fixed" ∨ z = "free") → PySem.W.nsIn K d z = some none)
    (ne_Frame : findIn K (.ref C_Frame) "__ne__" = some (some (.builtin "object.__ne__")))
    (mr_Frame : PySem.W.mroIn K C_Frame (.type "object") = some true)
    (st_Frame : findIn K (.ref C_Frame) "__str__" = some (some (.builtin "object.__str__")))
    (fm_Frame : findIn K (.ref C_Frame) "__format__" = some (some (.builtin "object.__format__")))
    (ca_Frame : findIn K (.ref C_Frame) "__class__" = some (some (.builtin "object.__class__")))
    (cn_Frame : PySem.W.specialIn K (.builtin "object.__class__") "__get__" = some (some (.builtin "getset_descriptor.__get__")))
    (ct_Frame : PySem.W.takesIn K (.builtin "object.__class__") = some true)
    (ty_Frame : PySem.W.typeIn K (.ref C_Frame) = some (.type "type"))
    (kt_Frame : PySem.W.subIn K (.type "tuple") (.ref C_Frame) = some false)
    (ks_Frame : PySem.W.subIn K (.type "str") (.ref C_Frame) = some false)
    (nt_Frame : PySem.W.notFirst K C_Frame (.type "tuple") = true)
    (ns_Frame : PySem.W.notFirst K C_Frame (.type "str") = true)
    (mp_Frame : PySem.W.findCls K (.ref C_Frame) (.type "type") "MOST_PIECES" = some (.val (.int 1000000000000000000 t3)))
    (ag_DIGITS : PySem.W.nsIn K mainGlobals "DIGITS" = some (some (.str "0123456789" t4)))
    (ag_MOST_DIGITS : PySem.W.nsIn K mainGlobals "MOST_DIGITS" = some (some (.int 19 t5)))
    (zb : blts.all (absB K) = true) :
    ∃ fd : FuncData, (∀ (s : Shared) (v : Value), BindsTo s fd ⟨[v], []⟩ [("_law_script", v)]) ∧ ∀ base : Heap, K.In base → base.Ns mainGlobals mg → Fk l.prog w K mg base 8 fa fd ["_law_script"] (spLaw K) := by
  have bl := bl_of X G zb
  have F_number_of := fun_mk (st := s_number_of) l_number_of c_number_of k_number_of
  have b_number_of := F_number_of.binds (ps := ["text"]) fun _ _ _ _ _ _ us hl => match us, hl with | [_], _ => rfl
  have F_Frame_init := fun_mk (st := s_Frame_init) l_Frame_init c_Frame_init k_Frame_init
  have b_Frame_init := F_Frame_init.binds (ps := ["self", "pieces", "front", "back"]) fun _ _ _ _ _ _ us hl => match us, hl with | [_, _, _, _], _ => rfl
  have F_Frame_parse := fun_mk (st := s_Frame_parse) l_Frame_parse c_Frame_parse k_Frame_parse
  have b_Frame_parse := F_Frame_parse.binds (ps := ["cls", "text"]) fun _ _ _ _ _ _ us hl => match us, hl with | [_, _], _ => rfl
  have F_Frame_slots := fun_mk (st := s_Frame_slots) l_Frame_slots c_Frame_slots k_Frame_slots
  have b_Frame_slots := F_Frame_slots.binds (ps := ["self"]) fun _ _ _ _ _ _ us hl => match us, hl with | [_], _ => rfl
  have F_Frame_turn := fun_mk (st := s_Frame_turn) l_Frame_turn c_Frame_turn k_Frame_turn
  have b_Frame_turn := F_Frame_turn.binds (ps := ["self"]) fun _ _ _ _ _ _ us hl => match us, hl with | [_], _ => rfl
  have F_Frame_text := fun_mk (st := s_Frame_text) l_Frame_text c_Frame_text k_Frame_text
  have b_Frame_text := F_Frame_text.binds (ps := ["self"]) fun _ _ _ _ _ _ us hl => match us, hl with | [_], _ => rfl
  have F_Frame_slot_of := fun_mk (st := s_Frame_slot_of) l_Frame_slot_of c_Frame_slot_of k_Frame_slot_of
  have b_Frame_slot_of := F_Frame_slot_of.binds (ps := ["self", "piece", "direction"]) fun _ _ _ _ _ _ us hl => match us, hl with | [_, _, _], _ => rfl
  have F_Frame_pulse_at := fun_mk (st := s_Frame_pulse_at) l_Frame_pulse_at c_Frame_pulse_at k_Frame_pulse_at
  have b_Frame_pulse_at := F_Frame_pulse_at.binds (ps := ["self", "slot"]) fun _ _ _ _ _ _ us hl => match us, hl with | [_, _], _ => rfl
  have F_Frame_eq := fun_mk (st := s_Frame_eq) l_Frame_eq c_Frame_eq k_Frame_eq
  have b_Frame_eq := F_Frame_eq.binds (ps := ["self", "other"]) fun _ _ _ _ _ _ us hl => match us, hl with | [_, _], _ => rfl
  have F_Frame_repr := fun_mk (st := s_Frame_repr) l_Frame_repr c_Frame_repr k_Frame_repr
  have b_Frame_repr := F_Frame_repr.binds (ps := ["self"]) fun _ _ _ _ _ _ us hl => match us, hl with | [_], _ => rfl
  have F_source := fun_mk (st := s_source) l_source c_source k_source
  have b_source := F_source.binds (ps := ["_law_script", "_law_index"]) fun _ _ _ _ _ _ us hl => match us, hl with | [_, _], _ => rfl
  have F_draw := fun_mk (st := s_draw) l_draw c_draw k_draw
  have b_draw := F_draw.binds (ps := ["_law_source_here", "_law_bound"]) fun _ _ _ _ _ _ us hl => match us, hl with | [_, _], _ => rfl
  have F_frame := fun_mk (st := s_frame) l_frame c_frame k_frame
  have b_frame := F_frame.binds (ps := ["_law_source_here", "_law_most"]) fun _ _ _ _ _ _ us hl => match us, hl with | [_, _], _ => rfl
  have F_made := fun_mk (st := s_made) l_made c_made k_made
  have b_made := F_made.binds (ps := ["_law_given"]) fun _ _ _ _ _ _ us hl => match us, hl with | [_], _ => rfl
  have F_slots_right := fun_mk (st := s_slots_right) l_slots_right c_slots_right k_slots_right
  have b_slots_right := F_slots_right.binds (ps := ["_law_frame_here", "_law_pieces", "_law_slot"]) fun _ _ _ _ _ _ us hl => match us, hl with | [_, _, _], _ => rfl
  have F_law := fun_mk (st := s_law) l_law c_law k_law
  have b_law := F_law.binds (ps := ["_law_script"]) fun _ _ _ _ _ _ us hl => match us, hl with | [_], _ => rfl
  have e := hfa.symm.trans (PySem.W.mg_of X G a_law)
  cases e
  refine ⟨PySem.W.fnOf "law" "law" (defArgs s_law) (defBody s_law) (defScope s_law) .none kV_law dc_law pm_law an_law cd_law ct_law, fun s v => .of_eq rfl, fun base _ _ => ?_⟩
  have T : FrT K w mg C_Frame d := ⟨⟨PySem.W.mg_of X G ag_SIGNS, ⟨es, n, lk_SIGNS, kl_SIGNS, sm_SIGNS⟩, ⟨_, fx_SIGNS⟩, ⟨_, fr_SIGNS⟩, no_SIGNS⟩, PySem.W.mg_of X G ac_Frame, ⟨pg_Frame, hd_Frame, po_Frame, sa_Frame⟩, n_Frame_pieces, n_Frame_front, n_Frame_back, n_Frame_front_sign, n_Frame_back_sign, ⟨_, _, ⟨rd_Frame, ga_Frame⟩, ⟨mp_Frame, ⟨_, rfl⟩⟩⟩⟩
  have q : FrQ K C_Frame f_Frame_eq f_Frame_repr := ⟨⟨a_Frame_eq, i_Frame_eq, ne_Frame, mr_Frame⟩, ⟨a_Frame_repr, i_Frame_repr, st_Frame, fm_Frame, mr_Frame⟩, ca_Frame, cn_Frame, ct_Frame, kit_self, kit_own ⟨pg_Frame, hd_Frame, po_Frame, sa_Frame⟩ ty_Frame kt_Frame rfl, kit_own ⟨pg_Frame, hd_Frame, po_Frame, sa_Frame⟩ ty_Frame ks_Frame rfl, nt_Frame, ns_Frame⟩
  have NT : NumT mg := ⟨⟨_, PySem.W.mg_of X G ag_DIGITS⟩, ⟨_, PySem.W.mg_of X G ag_MOST_DIGITS⟩⟩
  have DF : Cl l.prog w K mg base C_Frame "Frame" 1 ["self", "pieces", "front", "back"] (spFrInit C_Frame) := ⟨_, _, ok_Frame_init F_Frame_init bl T, b_Frame_init, ⟨mk_Frame, a_Frame_init, i_Frame_init, kc_Frame⟩, PySem.W.mg_of X G ac_Frame⟩
  have PS : Pr l.prog w K mg base C_Frame "slots" 1 (spFr0 C_Frame fun n _ _ => .int (2 * n)) := ⟨_, _, _, ok_Frame_slots F_Frame_slots bl T, b_Frame_slots, ⟨a_Frame_slots, g_Frame_slots, t_Frame_slots, r_Frame_slots⟩⟩
  have PU : Pr l.prog w K mg base C_Frame "turn" 1 (spFr0 C_Frame fun _ f b => .int (sgn f * sgn b)) := ⟨_, _, _, ok_Frame_turn F_Frame_turn bl T, b_Frame_turn, ⟨a_Frame_turn, g_Frame_turn, t_Frame_turn, r_Frame_turn⟩⟩
  have PT : Pr l.prog w K mg base C_Frame "text" 1 (spFrText C_Frame) := ⟨_, _, _, ok_Frame_text F_Frame_text bl T, b_Frame_text, ⟨a_Frame_text, g_Frame_text, t_Frame_text, r_Frame_text⟩⟩
  have MS : Mt l.prog w K mg base C_Frame "slot_of" 1 ["self", "piece", "direction"] (spSlotOf C_Frame) := ⟨_, _, ok_Frame_slot_of F_Frame_slot_of bl T, b_Frame_slot_of, ⟨a_Frame_slot_of, i_Frame_slot_of, k_Frame_slot_of⟩⟩
  have MP : Mt l.prog w K mg base C_Frame "pulse_at" 1 ["self", "slot"] (spPulseAt C_Frame) := ⟨_, _, ok_Frame_pulse_at F_Frame_pulse_at bl T, b_Frame_pulse_at, ⟨a_Frame_pulse_at, i_Frame_pulse_at, k_Frame_pulse_at⟩⟩
  have ME : MtA l.prog w K mg base f_Frame_eq 1 ["self", "other"] (spFrEq C_Frame) := ⟨_, ok_Frame_eq F_Frame_eq bl T q, b_Frame_eq⟩
  have MR : MtA l.prog w K mg base f_Frame_repr 3 ["self"] (spFrRepr C_Frame) := ⟨_, ok_Frame_repr F_Frame_repr bl T PT, b_Frame_repr⟩
  have DN : Df l.prog w K mg base "number_of" 1 ["text"] spNum := ⟨_, _, ok_number F_number_of bl NT, b_number_of, k_number_of, PySem.W.mg_of X G a_number_of⟩
  have CP : Cm l.prog w K mg base C_Frame "parse" 3 ["cls", "text"] (spParse C_Frame) := ⟨_, _, _, _, ok_parse F_Frame_parse bl T DN DF, b_Frame_parse, ⟨rd_Frame, ga_Frame⟩, ⟨a_Frame_parse, r_Frame_parse, i_Frame_parse⟩⟩
  have D1 : Df l.prog w K mg base "_law_source" 1 ["_law_script", "_law_index"] (spSource K) := ⟨_, _, ok_source F_source bl, b_source, k_source, PySem.W.mg_of X G a_source⟩
  have D2 : Df l.prog w K mg base "_law_draw" 1 ["_law_source_here", "_law_bound"] spDraw := ⟨_, _, ok_draw F_draw bl, b_draw, k_draw, PySem.W.mg_of X G a_draw⟩
  have D3 : Df l.prog w K mg base "_law_frame" 2 ["_law_source_here", "_law_most"] spLawFrame := ⟨_, _, ok_lawframe F_frame bl D2, b_frame, k_frame, PySem.W.mg_of X G a_frame⟩
  have D4 : Df l.prog w K mg base "_law_made" 3 ["_law_given"] (spLawMade C_Frame) := ⟨_, _, ok_lawmade F_made bl DF, b_made, k_made, PySem.W.mg_of X G a_made⟩
  have D5 : Df l.prog w K mg base "_law_slots_right" 2 ["_law_frame_here", "_law_pieces", "_law_slot"] (spSlots C_Frame) := ⟨_, _, ok_slots_right F_slots_right bl T MP MS, b_slots_right, k_slots_right, PySem.W.mg_of X G a_slots_right⟩
  exact ok_law F_law bl T q D1 D2 D3 D4 D5 PT PS PU MR ME CP

end
end U
open PySem PySem.W PyProof.Rows in
set_option maxRecDepth 100000 in
set_option maxHeartbeats 0 in
theorem PySem.Challenge.cw_pulserope_k02_frames_holds : PySem.Challenge.rw_pulserope_k02_frames.Holds := by
  w_on; o_law; k_head; (case hw => w_witness2)
  k_fill
  refine U.walk_G (l := PySem.Challenge.rw_pulserope_k02_frames) (k := 8) (x := "_law_script") (sp := fun w => U.spLaw _) rfl rfl ⟨rfl, by decide, by decide⟩ (fun w h Y => PySem.W.kIn_of Y) ?F (fun w H a ns hl hs => ⟨a, ns, rfl, hs, hl, fun _ => rfl⟩)
  case F =>
    intro w mg fa h KX G hmg
    refine' U.all_mk KX G hmg ?ac_Frame ?pg_Frame ?hd_Frame ?po_Frame ?sa_Frame ?mk_Frame ?kc_Frame ?rd_Frame ?ga_Frame ?a_number_of ?l_number_of ?c_number_of ?k_number_of ?a_Frame_init ?i_Frame_init ?l_Frame_init ?c_Frame_init ?k_Frame_init ?a_Frame_parse ?r_Frame_parse ?i_Frame_parse ?l_Frame_parse ?c_Frame_parse ?k_Frame_parse ?a_Frame_slots ?g_Frame_slots ?t_Frame_slots ?r_Frame_slots ?l_Frame_slots ?c_Frame_slots ?k_Frame_slots ?a_Frame_turn ?g_Frame_turn ?t_Frame_turn ?r_Frame_turn ?l_Frame_turn ?c_Frame_turn ?k_Frame_turn ?a_Frame_text ?g_Frame_text ?t_Frame_text ?r_Frame_text ?l_Frame_text ?c_Frame_text ?k_Frame_text ?a_Frame_slot_of ?i_Frame_slot_of ?l_Frame_slot_of ?c_Frame_slot_of ?k_Frame_slot_of ?a_Frame_pulse_at ?i_Frame_pulse_at ?l_Frame_pulse_at ?c_Frame_pulse_at ?k_Frame_pulse_at ?a_Frame_eq ?i_Frame_eq ?l_Frame_eq ?c_Frame_eq ?k_Frame_eq ?a_Frame_repr ?i_Frame_repr ?l_Frame_repr ?c_Frame_repr ?k_Frame_repr ?a_source ?l_source ?c_source ?k_source ?a_draw ?l_draw ?c_draw ?k_draw ?a_frame ?l_frame ?c_frame ?k_frame ?a_made ?l_made ?c_made ?k_made ?a_slots_right ?l_slots_right ?c_slots_right ?k_slots_right ?a_law ?l_law ?c_law ?k_law ?n_Frame_pieces ?n_Frame_front ?n_Frame_back ?n_Frame_front_sign ?n_Frame_back_sign ?ag_SIGNS ?lk_SIGNS ?kl_SIGNS ?sm_SIGNS ?fx_SIGNS ?fr_SIGNS ?no_SIGNS ?ne_Frame ?mr_Frame ?st_Frame ?fm_Frame ?ca_Frame ?cn_Frame ?ct_Frame ?ty_Frame ?kt_Frame ?ks_Frame ?nt_Frame ?ns_Frame ?mp_Frame ?ag_DIGITS ?ag_MOST_DIGITS ?zb
    (case ac_Frame => k_is)
    (case pg_Frame => k_is)
    (case hd_Frame => k_is)
    (case po_Frame => k_is)
    (case sa_Frame => k_is)
    (case mk_Frame => k_is)
    (case kc_Frame => k_is)
    (case rd_Frame => k_is)
    (case ga_Frame => k_is)
    (case a_number_of => k_is)
    (case l_number_of => k_is)
    (case c_number_of => k_is)
    (case k_number_of => k_is)
    (case a_Frame_init => k_is)
    (case i_Frame_init => k_is)
    (case l_Frame_init => k_is)
    (case c_Frame_init => k_is)
    (case k_Frame_init => k_is)
    (case a_Frame_parse => k_is)
    (case r_Frame_parse => exact ⟨_, by k_is⟩)
    (case i_Frame_parse => k_is)
    (case l_Frame_parse => k_is)
    (case c_Frame_parse => k_is)
    (case k_Frame_parse => k_is)
    (case a_Frame_slots => k_is)
    (case g_Frame_slots => k_is)
    (case t_Frame_slots => k_is)
    (case r_Frame_slots => exact ⟨_, by k_is⟩)
    (case l_Frame_slots => k_is)
    (case c_Frame_slots => k_is)
    (case k_Frame_slots => k_is)
    (case a_Frame_turn => k_is)
    (case g_Frame_turn => k_is)
    (case t_Frame_turn => k_is)
    (case r_Frame_turn => exact ⟨_, by k_is⟩)
    (case l_Frame_turn => k_is)
    (case c_Frame_turn => k_is)
    (case k_Frame_turn => k_is)
    (case a_Frame_text => k_is)
    (case g_Frame_text => k_is)
    (case t_Frame_text => k_is)
    (case r_Frame_text => exact ⟨_, by k_is⟩)
    (case l_Frame_text => k_is)
    (case c_Frame_text => k_is)
    (case k_Frame_text => k_is)
    (case a_Frame_slot_of => k_is)
    (case i_Frame_slot_of => k_is)
    (case l_Frame_slot_of => k_is)
    (case c_Frame_slot_of => k_is)
    (case k_Frame_slot_of => k_is)
    (case a_Frame_pulse_at => k_is)
    (case i_Frame_pulse_at => k_is)
    (case l_Frame_pulse_at => k_is)
    (case c_Frame_pulse_at => k_is)
    (case k_Frame_pulse_at => k_is)
    (case a_Frame_eq => k_is)
    (case i_Frame_eq => k_is)
    (case l_Frame_eq => k_is)
    (case c_Frame_eq => k_is)
    (case k_Frame_eq => k_is)
    (case a_Frame_repr => k_is)
    (case i_Frame_repr => k_is)
    (case l_Frame_repr => k_is)
    (case c_Frame_repr => k_is)
    (case k_Frame_repr => k_is)
    (case a_source => k_is)
    (case l_source => k_is)
    (case c_source => k_is)
    (case k_source => k_is)
    (case a_draw => k_is)
    (case l_draw => k_is)
    (case c_draw => k_is)
    (case k_draw => k_is)
    (case a_frame => k_is)
    (case l_frame => k_is)
    (case c_frame => k_is)
    (case k_frame => k_is)
    (case a_made => k_is)
    (case l_made => k_is)
    (case c_made => k_is)
    (case k_made => k_is)
    (case a_slots_right => k_is)
    (case l_slots_right => k_is)
    (case c_slots_right => k_is)
    (case k_slots_right => k_is)
    (case a_law => k_is)
    (case l_law => k_is)
    (case c_law => k_is)
    (case k_law => k_is)
    (case n_Frame_pieces => k_is)
    (case n_Frame_front => k_is)
    (case n_Frame_back => k_is)
    (case n_Frame_front_sign => k_is)
    (case n_Frame_back_sign => k_is)
    (case ag_SIGNS => k_is)
    (case lk_SIGNS => k_is)
    (case kl_SIGNS => exact ⟨⟨_, _, rfl, rfl⟩, ⟨_, _, rfl, rfl⟩, trivial⟩)
    (case sm_SIGNS => first | rfl | decide)
    (case fx_SIGNS => k_is)
    (case fr_SIGNS => k_is)
    (case no_SIGNS => exact U.sg_no (by k_is) ⟨_, rfl⟩ ⟨_, rfl⟩)
    (case ne_Frame => k_is)
    (case mr_Frame => k_is)
    (case st_Frame => k_is)
    (case fm_Frame => k_is)
    (case ca_Frame => k_is)
    (case cn_Frame => k_is)
    (case ct_Frame => k_is)
    (case ty_Frame => k_is)
    (case kt_Frame => k_is)
    (case ks_Frame => k_is)
    (case nt_Frame => k_is)
    (case ns_Frame => k_is)
    (case mp_Frame => k_is)
    (case ag_DIGITS => k_is)
    (case ag_MOST_DIGITS => k_is)
    (case zb => first | k_is | kernel_rfl | rfl)
#print axioms PySem.Challenge.cw_pulserope_k02_frames_holds
