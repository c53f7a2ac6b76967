import PyProof.Rows.All
import Wide.All
import OpenK.AllK
import Wide.FinOn
import HandS.ForExc
import HandS.IsInst
import HandS.Style
import HandS.Deep
import HandS.ForMost
import HandS.Walk
import HandS.SetFor
import KE.KDictZip
import KE.DataMinMax
import PySem.Challenge.RW_forkstamp_k04_at_most_and_joined
set_option Elab.async false
set_option linter.all false
set_option maxRecDepth 100000
set_option maxHeartbeats 4000000
set_option autoImplicit false
namespace Fk
open PySem L2
def top (i : Nat) : Stmt := PySem.Challenge.pw_forkstamp_k04_at_most_and_joined.main.body.getD i (.Pass ⟨0, 0, 0, 0⟩)
abbrev s_lifted : Stmt := top 1
abbrev s_base : Stmt := top 2
abbrev s_spread : Stmt := top 3
abbrev s_told_least : Stmt := top 4
abbrev s_told_greatest : Stmt := top 5
abbrev s_halves : Stmt := top 6
abbrev s_at_most : Stmt := top 7
abbrev s_joined : Stmt := top 8
abbrev s__law_mixed : Stmt := top 10
abbrev s__law_at : Stmt := top 11
abbrev s__law_tree : Stmt := top 12
abbrev s__law_numbers : Stmt := top 13
abbrev s__law_told_of : Stmt := top 14
abbrev s__law_under : Stmt := top 15
abbrev s_law : Stmt := top 16
end Fk
/-! A small logic over the hand layer: what an expression, a test, a block comes to, in contexts that tell of each name what it holds; heaps stay hidden. -/
namespace Fk
open PySem L2

/-- what is true of a value in a heap, and stays so while all that is tracked stays -/
structure Rel where
  p : V → Hp → Prop
  up : ∀ {v : V} {H H' : Hp}, Same H H' → p v H → p v H'
def intR (i : Int) : Rel := ⟨fun v _ => v = .int i, fun _ h => h⟩
def blR (b : Bool) : Rel := ⟨fun v _ => v = .bl b, fun _ h => h⟩
def strR (x : Str) : Rel := ⟨fun v _ => v = .str x, fun _ h => h⟩
def nonR : Rel := ⟨fun v _ => v = .non, fun _ h => h⟩
def tyR (n : String) : Rel := ⟨fun v _ => v = .ty n, fun _ h => h⟩
def clsR (C : Addr) : Rel := ⟨fun v _ => v = .ref C, fun _ h => h⟩
def anyR : Rel := ⟨fun _ _ => True, fun _ h => h⟩
/-- stronger -/
def Rel.le (R R' : Rel) : Prop := ∀ v H, R.p v H → R'.p v H
theorem Rel.le.refl (R : Rel) : R.le R := fun _ _ h => h
theorem Rel.le.of_eq {R R' : Rel} (e : R = R') : R.le R' := by subst e; exact .refl _

/-- the names of a def with what they hold -/
abbrev Ctx := List (Str × Option Rel)
def SlotsN (N : List Str) (sc : Scope) (G : Ctx) (σ : St) (H : Hp) : Prop :=
  N = G.map (·.1) ∧ G.length = σ.length ∧ ∀ (i : Nat) (x : Str) (R : Rel), G[i]? = some (x, some R) → Vis sc x ∧ ∃ v, σ[i]? = some (some v) ∧ R.p v H
def Slots (X : Cx) (G : Ctx) (σ : St) (H : Hp) : Prop := SlotsN X.N X.env.scope G σ H
theorem Slots.up {X : Cx} {G : Ctx} {σ : St} {H H' : Hp} (s : Same H H') (h : Slots X G σ H) : Slots X G σ H' :=
  ⟨h.1, h.2.1, fun i x R e => by obtain ⟨k, v, a, b⟩ := h.2.2 i x R e; exact ⟨k, v, a, R.up s b⟩⟩
def Args : List Rel → List V → Hp → Prop
  | [], [], _ => True
  | R :: Rs, v :: vs, H => R.p v H ∧ Args Rs vs H
  | [], _ :: _, _ => False
  | _ :: _, [], _ => False
theorem Args.up : ∀ {Rs : List Rel} {vs : List V} {H H' : Hp}, Same H H' → Args Rs vs H → Args Rs vs H'
  | [], [], _, _, _, h => h
  | R :: _, _ :: _, _, _, s, h => ⟨R.up s h.1, Args.up s h.2⟩
  | [], _ :: _, _, _, _, h => h.elim
  | _ :: _, [], _, _, _, h => h.elim
theorem Args.one {R : Rel} {vs : List V} {H : Hp} (h : Args [R] vs H) : ∃ v, vs = [v] ∧ R.p v H := by
  match vs, h with
  | [v], h => exact ⟨v, rfl, h.1⟩
theorem Args.two {R R' : Rel} {vs : List V} {H : Hp} (h : Args [R, R'] vs H) : ∃ v w, vs = [v, w] ∧ R.p v H ∧ R'.p w H := by
  match vs, h with
  | [v, w], h => exact ⟨v, w, rfl, h.1, h.2.1⟩
theorem Args.three {R R' R'' : Rel} {vs : List V} {H : Hp} (h : Args [R, R', R''] vs H) : ∃ v w u, vs = [v, w, u] ∧ R.p v H ∧ R'.p w H ∧ R''.p u H := by
  match vs, h with
  | [v, w, u], h => exact ⟨v, w, u, rfl, h.1, h.2.1, h.2.2.1⟩
theorem Args.length : ∀ {Rs : List Rel} {vs : List V} {H : Hp}, Args Rs vs H → vs.length = Rs.length
  | [], [], _, _ => rfl
  | _ :: _, _ :: _, _, h => congrArg (· + 1) (Args.length h.2)
  | [], _ :: _, _, h => h.elim
  | _ :: _, [], _, h => h.elim

/-! ### looking up and storing a name -/
inductive InCtx (x : Str) (R : Rel) : Ctx → Nat → Prop
  | here {G : Ctx} : InCtx x R ((x, some R) :: G) 0
  | there {G : Ctx} {q : Str × Option Rel} {i : Nat} (h : InCtx x R G i) : InCtx x R (q :: G) (i + 1)
theorem InCtx.get {x : Str} {R : Rel} {G : Ctx} {i : Nat} (h : InCtx x R G i) : G[i]? = some (x, some R) := by
  induction h with
  | here => rfl
  | there _ ih => simpa using ih
inductive SetCtx (x : Str) (R : Option Rel) : Ctx → Ctx → Nat → Prop
  | here {G : Ctx} {o : Option Rel} : SetCtx x R ((x, o) :: G) ((x, R) :: G) 0
  | there {G G' : Ctx} {q : Str × Option Rel} {i : Nat} (h : SetCtx x R G G' i) : SetCtx x R (q :: G) (q :: G') (i + 1)
theorem SetCtx.name {x : Str} {R : Option Rel} {G G' : Ctx} {i : Nat} (h : SetCtx x R G G' i) : (G.map (·.1))[i]? = some x := by
  induction h with
  | here => rfl
  | there _ ih => simpa using ih
theorem SetCtx.names {x : Str} {R : Option Rel} {G G' : Ctx} {i : Nat} (h : SetCtx x R G G' i) : G'.map (·.1) = G.map (·.1) := by
  induction h with
  | here => rfl
  | there _ ih => simp [ih]
theorem SetCtx.get {x : Str} {R : Option Rel} {G G' : Ctx} {i : Nat} (h : SetCtx x R G G' i) : ∀ j, G'[j]? = if j = i then some (x, R) else G[j]? := by
  induction h with
  | here => intro j; cases j <;> simp
  | there _ ih =>
    intro j
    cases j with
    | zero => simp
    | succ j => simpa using ih j
theorem SetCtx.lt {x : Str} {R : Option Rel} {G G' : Ctx} {i : Nat} (h : SetCtx x R G G' i) : i < G.length ∧ G'.length = G.length := by
  induction h with
  | here => simp
  | there _ ih => simp; omega
theorem Slots.set {X : Cx} {G G' : Ctx} {σ : St} {H : Hp} {x : Str} {R : Rel} {i : Nat} {v : V} (hv : Vis X.env.scope x) (c : SetCtx x (some R) G G' i) (h : Slots X G σ H) (r : R.p v H) : Slots X G' (σ.set i (some v)) H := by
  refine ⟨by rw [c.names]; exact h.1, by rw [List.length_set, c.lt.2]; exact h.2.1, fun j y S e => ?_⟩
  rw [c.get] at e
  have hl := c.lt.1
  by_cases hj : j = i
  · subst hj
    rw [if_pos rfl] at e
    cases e
    exact ⟨hv, v, by rw [List.getElem?_set_self (by have := h.2.1; omega)], r⟩
  · rw [if_neg hj] at e
    obtain ⟨k, w, a, b⟩ := h.2.2 j y S e
    exact ⟨k, w, by rw [List.getElem?_set_ne (Ne.symm hj)]; exact a, b⟩

/-! ### the judgements -/
/-- what every body has -/
structure Body (X : Cx) : Prop where
  calm : X.calm = true
  nd : X.N.Nodup
  loc : ∀ x ∈ X.N, Loc X.env.scope x ∨ X.env.scope.names.lookup x = none
  fn : ∀ x, X.fn x = true
  own : PassesOwn (model X.prog X.w) X.A X.env X.xe
theorem Body.locOf {X : Cx} (B : Body X) {x : Str} (h : x ∈ X.N) (hx : X.env.scope.names.lookup x ≠ none) : Loc X.env.scope x := (B.loc x h).resolve_right hx
theorem vis_of_loc {sc : Scope} {x : Str} (h : Loc sc x) : Vis sc x := by
  rcases h with k | k
  · exact .inl k
  · exact .inr (.inl k)
def tEv (X : Cx) (H0 : Hp) (G : Ctx) (R : Rel) : TE := fun σ H Q => Same H0 H ∧ Slots X G σ H ∧ ∀ v H', Same H H' → R.p v H' → Q v H'
def tTv (X : Cx) (H0 : Hp) (G : Ctx) (b : Bool) : TT := fun σ H Q => Same H0 H ∧ Slots X G σ H ∧ ∀ H', Same H H' → Q b H'
def tAv (X : Cx) (H0 : Hp) (G : Ctx) (Rs : List Rel) : TA := fun σ H Q => Same H0 H ∧ Slots X G σ H ∧ ∀ vs H', Same H H' → Args Rs vs H' → Q vs H'
/-- a block: behind it the names hold G' (none: nothing follows), or it hands back R -/
def tSv (X : Cx) (H0 : Hp) (G : Ctx) (G' : Option Ctx) (R : Rel) : TS := fun D σ H => Same H0 H ∧ Slots X G σ H ∧ (∀ C σ' H', G' = some C → Same H H' → Slots X C σ' H' → D.nx σ' H') ∧ ∀ v H', Same H H' → R.p v H' → D.rt v H'
def Ev (X : Cx) (H0 : Hp) (G : Ctx) (e : Expr) (R : Rel) : Prop := PE X e (tEv X H0 G R)
def Tv (X : Cx) (H0 : Hp) (G : Ctx) (e : Expr) (b : Bool) : Prop := PT X e (tTv X H0 G b)
def Wv (X : Cx) (H0 : Hp) (G : Ctx) (e : Expr) (b : Bool) : Prop := PW X e (tTv X H0 G b)
def Av (X : Cx) (H0 : Hp) (G : Ctx) (es : List Expr) (Rs : List Rel) : Prop := PA X es (tAv X H0 G Rs)
def Sv (X : Cx) (H0 : Hp) (G : Ctx) (st : Stmt) (G' : Option Ctx) (R : Rel) : Prop := PS X st (tSv X H0 G G' R)
def Bv (X : Cx) (H0 : Hp) (G : Ctx) (sts : List Stmt) (G' : Option Ctx) (R : Rel) : Prop := PSs X sts (tSv X H0 G G' R)
section
variable {X : Cx} {H0 : Hp} {G G1 G2 : Ctx} {G' : Option Ctx} {R Ra Rb Rc : Rel} {Rs : List Rel} {a b c e : Expr} {es : List Expr} {x : Str} {pos p : Pos} {u v w : Bool}
theorem PE_imp {t t' : TE} (h : PE X e t) (i : ∀ σ H Q, t' σ H Q → t σ H Q) : PE X e t' := ⟨fun pins s σ H Q I q => h.run pins s σ H Q I (i _ _ _ q)⟩
theorem PT_imp {t t' : TT} (h : PT X e t) (i : ∀ σ H Q, t' σ H Q → t σ H Q) : PT X e t' := ⟨fun pins s σ H Q I q => h.run pins s σ H Q I (i _ _ _ q)⟩
theorem PW_imp {t t' : TT} (h : PW X e t) (i : ∀ σ H Q, t' σ H Q → t σ H Q) : PW X e t' := ⟨fun wh pins s σ H Q I q => h.run wh pins s σ H Q I (i _ _ _ q)⟩
theorem PA_imp {t t' : TA} (h : PA X es t) (i : ∀ σ H Q, t' σ H Q → t σ H Q) : PA X es t' := ⟨fun ps pins s σ H Q I q => h.run ps pins s σ H Q I (i _ _ _ q)⟩
theorem PS_imp {st : Stmt} {t t' : TS} (h : PS X st t) (i : ∀ D σ H, t' D σ H → t D σ H) : PS X st t' := ⟨fun pins s σ H D I q => h.run pins s σ H D I (i _ _ _ q)⟩
theorem PSs_imp {st : List Stmt} {t t' : TS} (h : PSs X st t) (i : ∀ D σ H, t' D σ H → t D σ H) : PSs X st t' := ⟨fun pins s σ H D I q => h.run pins s σ H D I (i _ _ _ q)⟩

/-! ### expressions -/
theorem Ev.le (h : Ev X H0 G e R) (l : R.le Ra) : Ev X H0 G e Ra := PE_imp h fun _ _ _ q => ⟨q.1, q.2.1, fun v H' s r => q.2.2 v H' s (l _ _ r)⟩
theorem Ev.eq (h : Ev X H0 G e R) (l : R = Ra) : Ev X H0 G e Ra := l ▸ h
theorem ev_var {i : Nat} (h : InCtx x R G i) (hd : (x == ("__debug__" : Str)) = false := by decide) (hcd : (x == ("__classdict__" : Str)) = false := by decide) : Ev X H0 G (.Name x pos) R := by
  refine ⟨fun pins s σ H Q I q => ?_⟩
  obtain ⟨g, S, q⟩ := q
  obtain ⟨hv, v, e, r⟩ := S.2.2 _ _ _ h.get
  have hN : X.N[i]? = some x := by rw [S.1, List.getElem?_map, h.get]; rfl
  exact (pe_var (i := i) hN hv hd hcd).run pins s σ H Q I ⟨v, e, q v H (Same.refl H) r⟩
theorem ev_c {k : V} {e : Expr} (h : PE X e (tC k)) (r : ∀ H, R.p k H) : Ev X H0 G e R := PE_imp h fun _ H _ q => q.2.2 _ H (Same.refl H) (r H)
theorem ev_int {i : Int} {j : Nat} : Ev X H0 G (.Constant (.int i) j pos) (intR i) := ev_c pe_int fun _ => rfl
theorem ev_bl {i : Bool} {j : Nat} : Ev X H0 G (.Constant (.bool i) j pos) (blR i) := ev_c pe_bl fun _ => rfl
theorem ev_str {i : Str} {j : Nat} : Ev X H0 G (.Constant (.str i) j pos) (strR i) := ev_c pe_str fun _ => rfl
theorem ev_non {j : Nat} : Ev X H0 G (.Constant .none j pos) nonR := ev_c pe_non fun _ => rfl
/-- a built-in type, as a value -/
theorem ev_ty {n : String} (hm : X.mg x = none) (hv : bootBuiltins x = some (.type n)) (hg : Gl X x) (hn : x ≠ "__name__") (hd : (x == ("__debug__" : Str)) = false) : Ev X H0 G (.Name x pos) (tyR n) := ev_c (pe_bltn (v := .ty n) hg hm hv rfl hn hd) fun _ => rfl
/-- an own class, as a value -/
theorem ev_cls {C : Addr} (hm : X.mg x = some (.ref C)) (hg : Gl X x) (hd : (x == ("__debug__" : Str)) = false) : Ev X H0 G (.Name x pos) (clsR C) := ev_c (pe_glob (v := .ref C) hg hm rfl hd) fun _ => rfl
theorem ev_glob {k : V} {u : Value} (hm : X.mg x = some u) (r : RelV k u) (hr : ∀ H, R.p k H) (hg : Gl X x) (hd : (x == ("__debug__" : Str)) = false) : Ev X H0 G (.Name x pos) R := ev_c (pe_glob hg hm r hd) hr
theorem boot_tuple : bootBuiltins "tuple" = some (.type "tuple") := by decide +kernel
theorem boot_int : bootBuiltins "int" = some (.type "int") := by decide +kernel
theorem boot_bool : bootBuiltins "bool" = some (.type "bool") := by decide +kernel
theorem boot_str : bootBuiltins "str" = some (.type "str") := by decide +kernel
theorem boot_list : bootBuiltins "list" = some (.type "list") := by decide +kernel
/-- a two-place operation on values -/
def Op2 (X : Cx) (f : Value → Value → Sem Value) (Ra Rb R : Rel) : Prop := ∃ r, OpR X f r ∧ ∀ x y H Q, Ra.p x H → Rb.p y H → (∀ v H', Same H H' → R.p v H' → Q v H') → r x y H Q
theorem op2_sound {r : R2} (ta tb : TE) (hr : ∀ x y H Q, Ra.p x H → Rb.p y H → (∀ v H', Same H H' → R.p v H' → Q v H') → r x y H Q) {σ : St} {H : Hp} {Q : VK} (h : tEv X H0 G R σ H Q) : tOp r (tEv X H0 G Ra) (tEv X H0 G Rb) σ H Q := by
  obtain ⟨g, S, q⟩ := h
  exact ⟨g, S, fun v H1 s1 r1 => ⟨g.trans s1, S.up s1, fun y H2 s2 r2 => hr _ _ _ _ (Ra.up s2 r1) r2 fun v H' s3 r3 => q v H' (s1.trans (s2.trans s3)) r3⟩⟩
theorem ev_bin {op : Operator} (ha : Ev X H0 G a Ra) (hb : Ev X H0 G b Rb) (ho : Op2 X (binaryOp op) Ra Rb R) : Ev X H0 G (.BinOp a op b pos) R := by
  obtain ⟨r, ho, hr⟩ := ho
  exact PE_imp (pe_op ho ha hb) fun σ H Q h => op2_sound (tEv X H0 G Ra) (tEv X H0 G Rb) hr h
theorem ev_cmp {op : CmpOp} (ha : Ev X H0 G a Ra) (hb : Ev X H0 G b Rb) (ho : Op2 X (compareOp op) Ra Rb R) (hm : behindInMarks op b = false) : Ev X H0 G (.Compare a [op] [b] pos) R := by
  obtain ⟨r, ho, hr⟩ := ho
  exact PE_imp (pe_cmpR ho ha hb hm) fun σ H Q h => op2_sound (tEv X H0 G Ra) (tEv X H0 G Rb) hr h
theorem tv_cmp {op : CmpOp} (ha : Ev X H0 G a Ra) (hb : Ev X H0 G b Rb) (ho : Op2 X (compareOp op) Ra Rb (blR u)) (hm : behindInMarks op b = false) : Tv X H0 G (.Compare a [op] [b] pos) u := by
  obtain ⟨r, ho, hr⟩ := ho
  refine PT_imp (pt_cmpR ho ha hb hm) fun σ H Q h => ?_
  obtain ⟨g, S, q⟩ := h
  exact op2_sound (R := blR u) (tEv X H0 G Ra) (tEv X H0 G Rb) hr ⟨g, S, fun v H' s r => ⟨u, r, q H' s⟩⟩

theorem tchain_sound {r r' : R2} (hr : ∀ x y H Q, Ra.p x H → Rb.p y H → (∀ v H', Same H H' → (blR u).p v H' → Q v H') → r x y H Q)
    (hr' : u = true → ∀ x y H Q, Rb.p x H → Rc.p y H → (∀ z H', Same H H' → (blR v).p z H' → Q z H') → r' x y H Q) {σ : St} {H : Hp} {Q : VK} (h : tEv X H0 G (blR (u && v)) σ H Q) :
    tChain r r' (tEv X H0 G Ra) (tEv X H0 G Rb) (tEv X H0 G Rc) σ H Q := by
  obtain ⟨g, S, q⟩ := h
  refine ⟨g, S, fun v1 H1 s1 r1 => ⟨g.trans s1, S.up s1, fun v2 H2 s2 r2 => hr _ _ _ _ (Ra.up s2 r1) r2 fun z H3 s3 r3 => ⟨u, r3, ?_⟩⟩⟩
  cases u with
  | false => exact iteF (q _ _ (s1.trans (s2.trans s3)) rfl)
  | true =>
    refine iteT ⟨g.trans (s1.trans (s2.trans s3)), S.up (s1.trans (s2.trans s3)), fun v4 H4 s4 r4 => hr' rfl _ _ _ _ (Rb.up (s3.trans s4) r2) r4 fun z H5 s5 r5 => ?_⟩
    exact q z H5 (s1.trans (s2.trans (s3.trans (s4.trans s5)))) (by rw [Bool.true_and]; exact r5)
theorem ev_chain {op op' : CmpOp} (ha : Ev X H0 G a Ra) (hb : Ev X H0 G b Rb) (ho : Op2 X (compareOp op) Ra Rb (blR u)) (hc : Ev X H0 G c Rc) (ho' : Op2 X (compareOp op') Rb Rc (blR v))
    (hm : lastMarks [op, op'] [b, c] = false) : Ev X H0 G (.Compare a [op, op'] [b, c] pos) (blR (u && v)) := by
  obtain ⟨r, ho, hr⟩ := ho
  obtain ⟨r', ho', hr'⟩ := ho'
  exact PE_imp (pe_chain ho ho' ha hb hc hm) fun σ H Q h => tchain_sound hr (fun _ => hr') h
theorem tv_chain {op op' : CmpOp} (ha : Ev X H0 G a Ra) (hb : Ev X H0 G b Rb) (ho : Op2 X (compareOp op) Ra Rb (blR u)) (hc : Ev X H0 G c Rc) (ho' : Op2 X (compareOp op') Rb Rc (blR v))
    (hm : lastMarks [op, op'] [b, c] = false) : Tv X H0 G (.Compare a [op, op'] [b, c] pos) (u && v) := by
  obtain ⟨r, ho, hr⟩ := ho
  obtain ⟨r', ho', hr'⟩ := ho'
  refine PT_imp (pt_chain ho ho' ha hb hc hm) fun σ H Q h => ?_
  obtain ⟨g, S, q⟩ := h
  exact tchain_sound hr (fun _ => hr') ⟨g, S, fun z H' s r => ⟨_, r, q H' s⟩⟩
theorem ev_un {op : UnaryOp} {r : V → Hp → VK → Prop} (ha : Ev X H0 G a Ra) (ho : UnR X (unaryOp op) r) (hr : ∀ x H Q, Ra.p x H → (∀ v H', Same H H' → R.p v H' → Q v H') → r x H Q) : Ev X H0 G (.UnaryOp op a pos) R := by
  refine PE_imp (pe_un ho ha) fun σ H Q h => ?_
  obtain ⟨g, S, q⟩ := h
  exact ⟨g, S, fun v1 H1 s1 r1 => hr _ _ _ r1 fun z H2 s2 r2 => q z H2 (s1.trans s2) r2⟩
theorem ev_neg {i : Int} (ha : Ev X H0 G a (intR i)) : Ev X H0 G (.UnaryOp .USub a pos) (intR (-i)) := ev_un ha un_neg fun x H Q h q => ⟨i, h, q _ _ (Same.refl H) rfl⟩

/-! ### tests -/
theorem tv_val (h : Ev X H0 G e (blR u)) (he : ∀ whole, isTrue e X.env whole = (do let v ← whole; standAt e.pos; holding [v] (truthy v))) : Tv X H0 G e u := by
  refine PT_imp (pt_val h he) fun σ H Q q => ?_
  obtain ⟨g, S, q⟩ := q
  exact ⟨g, S, fun z H' s r => ⟨u, r, q H' s⟩⟩
theorem tv_not (h : Tv X H0 G a u) : Tv X H0 G (.UnaryOp .Not a pos) (!u) := by
  refine PT_imp (pt_not h) fun σ H Q q => ?_
  obtain ⟨g, S, q⟩ := q
  exact ⟨g, S, fun H' s => q H' s⟩
theorem ev_not (h : Ev X H0 G a (blR u)) : Ev X H0 G (.UnaryOp .Not a pos) (blR (!u)) := by
  refine PE_imp (pe_not h) fun σ H Q q => ?_
  obtain ⟨g, S, q⟩ := q
  exact ⟨g, S, fun v H' s r => ⟨u, r, q _ H' s rfl⟩⟩
theorem tv_w (h : Wv X H0 G e u) : Tv X H0 G e u := h.pt
theorem wv_and1 (h : Tv X H0 G a u) : Wv X H0 G (.BoolOp .And [a] pos) u := pw_and1 h
theorem wv_or1 (h : Tv X H0 G a u) : Wv X H0 G (.BoolOp .Or [a] pos) u := pw_or1 h
theorem wv_and {rest : List Expr} (ha : Tv X H0 G a u) (hb : u = true → Wv X H0 G (.BoolOp .And (b :: rest) pos) v) : Wv X H0 G (.BoolOp .And (a :: b :: rest) pos) (u && v) := by
  cases u with
  | false =>
    refine PW_imp (pw_and (tB' := fun _ _ _ => False) ha ⟨fun _ _ _ _ _ _ _ h => h.elim⟩) fun σ H Q q => ?_
    obtain ⟨g, S, q⟩ := q
    exact ⟨g, S, fun H' s => iteF (q H' s)⟩
  | true =>
    refine PW_imp (pw_and ha (hb rfl)) fun σ H Q q => ?_
    obtain ⟨g, S, q⟩ := q
    exact ⟨g, S, fun H' s => iteT ⟨g.trans s, S.up s, fun H2 s2 => by have z := q H2 (s.trans s2); rw [Bool.true_and] at z; exact z⟩⟩
theorem wv_or {rest : List Expr} (ha : Tv X H0 G a u) (hb : u = false → Wv X H0 G (.BoolOp .Or (b :: rest) pos) v) : Wv X H0 G (.BoolOp .Or (a :: b :: rest) pos) (u || v) := by
  cases u with
  | true =>
    refine PW_imp (pw_or (tB' := fun _ _ _ => False) ha ⟨fun _ _ _ _ _ _ _ h => h.elim⟩) fun σ H Q q => ?_
    obtain ⟨g, S, q⟩ := q
    exact ⟨g, S, fun H' s => iteT (q H' s)⟩
  | false =>
    refine PW_imp (pw_or ha (hb rfl)) fun σ H Q q => ?_
    obtain ⟨g, S, q⟩ := q
    exact ⟨g, S, fun H' s => iteF ⟨g.trans s, S.up s, fun H2 s2 => by have z := q H2 (s.trans s2); rw [Bool.false_or] at z; exact z⟩⟩
theorem ev_one {op : BoolOp} (h : Ev X H0 G a R) : Ev X H0 G (.BoolOp op [a] pos) R := pe_one h
theorem ev_and {rest : List Expr} (ha : Ev X H0 G a (blR u)) (hb : u = true → Ev X H0 G (.BoolOp .And (b :: rest) pos) (blR v)) : Ev X H0 G (.BoolOp .And (a :: b :: rest) pos) (blR (u && v)) := by
  cases u with
  | false =>
    refine PE_imp (pe_and (tb := fun _ _ _ => False) ha ⟨fun _ _ _ _ _ _ h => h.elim⟩) fun σ H Q q => ?_
    obtain ⟨g, S, q⟩ := q
    exact ⟨g, S, fun z H' s r => ⟨false, r, iteF (q _ H' s rfl)⟩⟩
  | true =>
    refine PE_imp (pe_and ha (hb rfl)) fun σ H Q q => ?_
    obtain ⟨g, S, q⟩ := q
    exact ⟨g, S, fun z H' s r => ⟨true, r, iteT ⟨g.trans s, S.up s, fun z2 H2 s2 r2 => q _ H2 (s.trans s2) (by rw [Bool.true_and]; exact r2)⟩⟩⟩
theorem ev_or {rest : List Expr} (ha : Ev X H0 G a (blR u)) (hb : u = false → Ev X H0 G (.BoolOp .Or (b :: rest) pos) (blR v)) : Ev X H0 G (.BoolOp .Or (a :: b :: rest) pos) (blR (u || v)) := by
  cases u with
  | true =>
    refine PE_imp (pe_or (tb := fun _ _ _ => False) ha ⟨fun _ _ _ _ _ _ h => h.elim⟩) fun σ H Q q => ?_
    obtain ⟨g, S, q⟩ := q
    exact ⟨g, S, fun z H' s r => ⟨true, r, iteT (q _ H' s rfl)⟩⟩
  | false =>
    refine PE_imp (pe_or ha (hb rfl)) fun σ H Q q => ?_
    obtain ⟨g, S, q⟩ := q
    exact ⟨g, S, fun z H' s r => ⟨false, r, iteF ⟨g.trans s, S.up s, fun z2 H2 s2 r2 => q _ H2 (s.trans s2) (by rw [Bool.false_or]; exact r2)⟩⟩⟩
theorem ev_ifExp (hc : Tv X H0 G c u) (ha : u = true → Ev X H0 G a R) (hb : u = false → Ev X H0 G b R) : Ev X H0 G (.IfExp c a b pos) R := by
  cases u with
  | true =>
    refine PE_imp (pe_ifExp hc (ha rfl) (tb := fun _ _ _ => False) ⟨fun _ _ _ _ _ _ h => h.elim⟩) fun σ H Q q => ?_
    obtain ⟨g, S, q⟩ := q
    exact ⟨g, S, fun H' s => iteT ⟨g.trans s, S.up s, fun z2 H2 s2 r2 => q _ H2 (s.trans s2) r2⟩⟩
  | false =>
    refine PE_imp (pe_ifExp hc (ta := fun _ _ _ => False) ⟨fun _ _ _ _ _ _ h => h.elim⟩ (hb rfl)) fun σ H Q q => ?_
    obtain ⟨g, S, q⟩ := q
    exact ⟨g, S, fun H' s => iteF ⟨g.trans s, S.up s, fun z2 H2 s2 r2 => q _ H2 (s.trans s2) r2⟩⟩

/-! ### argument lists, displays, calls -/
theorem av_nil : Av X H0 G [] [] := PA_imp pa_nil fun _ H _ q => q.2.2 [] H (Same.refl H) trivial
theorem av_cons (ha : Ev X H0 G e R) (hr : Av X H0 G es Rs) (hs : starEach (e :: es) X.env = (false, eval e X.env) :: starEach es X.env) : Av X H0 G (e :: es) (R :: Rs) := by
  refine PA_imp (pa_cons ha hr hs) fun σ H Q q => ?_
  obtain ⟨g, S, q⟩ := q
  exact ⟨g, S, fun v H1 s1 r1 => ⟨g.trans s1, S.up s1, fun vs H2 s2 r2 => q _ H2 (s1.trans s2) ⟨R.up s2 r1, r2⟩⟩⟩
/-- a tuple, a list of just these -/
def tupR (Rs : List Rel) : Rel := ⟨fun v H => ∃ a vs, v = .ref a ∧ H a = some (.tup vs) ∧ Args Rs vs H, fun s ⟨a, vs, e, h, r⟩ => ⟨a, vs, e, s _ _ h, r.up s⟩⟩
def lstR (Rs : List Rel) : Rel := ⟨fun v H => ∃ a vs, v = .ref a ∧ H a = some (.lst vs) ∧ Args Rs vs H, fun s ⟨a, vs, e, h, r⟩ => ⟨a, vs, e, s _ _ h, r.up s⟩⟩
theorem same_new {H : Hp} {p : Addr} {o : HO} (h : H p = none) : Same H (upd H p o) := fun b u q => by rw [upd_ne (ne_of_none q h)]; exact q
theorem small {n : Nat} (h : n ≤ 1000) : n ≤ sizeLine := Nat.le_of_lt (small1000 h)
theorem ev_tup {k : Nat} (h : Av X H0 G es Rs) (hl : Rs.length ≤ 1000) : Ev X H0 G (.Tuple es k pos) (tupR Rs) := by
  refine PE_imp (pe_tup h) fun σ H Q q => ?_
  obtain ⟨g, S, q⟩ := q
  exact ⟨g, S, fun vs H1 s1 r1 => ⟨small (by rw [r1.length]; exact hl), fun p hp => q _ _ (s1.trans (same_new hp)) ⟨p, vs, rfl, upd_same, r1.up (same_new hp)⟩⟩⟩
theorem ev_lst (h : Av X H0 G es Rs) (hl : Rs.length ≤ 1000) : Ev X H0 G (.List es pos) (lstR Rs) := by
  refine PE_imp (pe_lst h) fun σ H Q q => ?_
  obtain ⟨g, S, q⟩ := q
  exact ⟨g, S, fun vs H1 s1 r1 => ⟨small (by rw [r1.length]; exact hl), fun p hp => q _ _ (s1.trans (same_new hp)) ⟨p, vs, rfl, upd_same, r1.up (same_new hp)⟩⟩⟩
/-- a def of the text may be called with such values and hands back such a one -/
def CallOk (X : Cx) (x : Str) (Rs : List Rel) (R : Rel) : Prop := ∃ (CX : CXT) (E : XK) (k : Nat) (f : Addr) (fd : FuncData) (ps : List Str) (sp : Sp) (ds : List Value) (dvs : List V),
  FnOk X.prog X.w X.K X.mg X.base CX k f fd ps sp ∧ Room k X.A ∧ X.mg x = some (.ref f) ∧ PySem.W.keepIn X.K (.ref f) = true ∧ Binds X.K fd ps ds ∧ Vals dvs ds ∧ (∀ Y : Cx, Y.prog = X.prog → Y.w = X.w → Passes CX Y E) ∧
  ∀ vs H Q, Args Rs vs H → (∀ v H', Same H H' → R.p v H' → Q v H') → sp (vs ++ dvs) H Q E
/-- arguments that are at least such -/
inductive ArgsLe : List Rel → List Rel → Prop
  | nil : ArgsLe [] []
  | cons {S S' : Rel} {Ss Ss' : List Rel} (h : S.le S') (t : ArgsLe Ss Ss') : ArgsLe (S :: Ss) (S' :: Ss')
theorem ArgsLe.args {Ss Ss' : List Rel} (l : ArgsLe Ss Ss') : ∀ {vs : List V} {H : Hp}, Args Ss vs H → Args Ss' vs H := by
  induction l with
  | nil => intro vs H a; exact a
  | cons h t ih =>
    intro vs H a
    match vs, a with
    | v :: vs, a => exact ⟨h _ _ a.1, ih a.2⟩
theorem ev_call {Rs' : List Rel} (hc : CallOk X x Rs R) (ha : Av X H0 G (e :: es) Rs') (hl : ArgsLe Rs' Rs) (hg : Gl X x) (hdb : (x == ("__debug__" : Str)) = false) (he : starEach (e :: es) X.env = (false, eval e X.env) :: starEach es X.env)
    (hpl : (backTo pos (starEach es X.env)).any (·.1) = false) : Ev X H0 G (.Call (.Name x p) (e :: es) [] pos) R := by
  obtain ⟨CX, E, k, f, fd, ps, sp, ds, dvs, F, hr, hm, hk, hb, hd, hx, hsp⟩ := hc
  refine PE_imp (pe_call F hr hg hm hk hb hd (hx X rfl rfl) ha hdb he hpl) fun σ H Q q => ?_
  obtain ⟨g, S, q⟩ := q
  exact ⟨g, S, fun vs H1 s1 r1 => hsp _ _ _ (hl.args r1) fun v H2 s2 r2 => q v H2 (s1.trans s2) r2⟩
/-- a built-in function | type may be called so -/
def CallB (X : Cx) (x : Str) (Rs : List Rel) (R : Rel) : Prop := X.mg x = none ∧ ∃ (f : Value) (r : List V → Hp → VK → Prop), CallR X f r ∧ bootBuiltins x = some f ∧ ((∃ id, f = .builtin id) ∨ ∃ T, f = .type T) ∧
  ∀ vs H Q, Args Rs vs H → (∀ v H', Same H H' → R.p v H' → Q v H') → r vs H Q
theorem ev_callB (ha : Av X H0 G (e :: es) Rs) (hc : CallB X x Rs R) (hg : Gl X x) (hn : x ≠ "__name__") (hdb : (x == ("__debug__" : Str)) = false) (he : starEach (e :: es) X.env = (false, eval e X.env) :: starEach es X.env)
    (hpl : (backTo pos (starEach es X.env)).any (·.1) = false) : Ev X H0 G (.Call (.Name x p) (e :: es) [] pos) R := by
  obtain ⟨hm, f, r, hr, hv, hf, hsp⟩ := hc
  have snd : ∀ σ H Q, tEv X H0 G R σ H Q → tCB r (tAv X H0 G Rs) σ H Q := fun σ H Q q => by
    obtain ⟨g, S, q⟩ := q
    exact ⟨g, S, fun vs H1 s1 r1 => hsp _ _ _ r1 fun v H2 s2 r2 => q v H2 (s1.trans s2) r2⟩
  rcases hf with ⟨id, rfl⟩ | ⟨T, rfl⟩
  · exact PE_imp (pe_callB hr hg hm hv ha hn hdb he hpl) snd
  · exact PE_imp (pe_callTy hr hg hm hv ha hn hdb he hpl) snd
/-- a subscript -/
def IxOk (X : Cx) (Ra Rb R : Rel) : Prop := ∃ r, IxR X r ∧ ∀ x y H Q, Ra.p x H → Rb.p y H → (∀ v H', Same H H' → R.p v H' → Q v H') → r x y H Q
theorem ev_ix (ha : Ev X H0 G a Ra) (hb : Ev X H0 G b Rb) (ho : IxOk X Ra Rb R) (hs : PlainIx b) : Ev X H0 G (.Subscript a b pos) R := by
  obtain ⟨r, ho, hr⟩ := ho
  exact PE_imp (pe_ix ho ha hb hs) fun σ H Q h => op2_sound (tEv X H0 G Ra) (tEv X H0 G Rb) hr h

theorem loc_of {N : List Str} {sc : Scope} (h : (N.all fun y => decide ((sc.names.lookup y = some .local ∨ sc.names.lookup y = some .cell) ∨ sc.names.lookup y = none)) = true) : ∀ y ∈ N, Loc sc y ∨ sc.names.lookup y = none := fun y hy => by
  have q := List.all_eq_true.mp h y hy
  exact (decide_eq_true_iff (p := (sc.names.lookup y = some .local ∨ sc.names.lookup y = some .cell) ∨ sc.names.lookup y = none)).mp q
theorem nn_of {X : Cx} {x : Str} {sc : Scope} (hs : X.env.scope = sc) (h : sc.names.lookup x ≠ none) : X.env.scope.names.lookup x ≠ none := by
  rw [hs]
  exact h
theorem gl_of {sc : Scope} (hs : X.env.scope = sc) (h : sc.names.lookup x = some .globalImplicit) : Gl X x := by
  show X.env.scope.names.lookup x = _
  rw [hs]
  exact h
/-! ### blocks -/
theorem bv_nil : Bv X H0 G [] (some G) R := PSs_imp pss_nil fun D σ H q => q.2.2.1 _ _ _ rfl (Same.refl H) q.2.1
theorem Sv.ret {st : Stmt} {sts : List Stmt} (h : Sv X H0 G st none R) : Bv X H0 G (st :: sts) G' R := by
  refine PSs_imp (pss_cons h pss_never) fun D σ H q => ?_
  obtain ⟨g, S, _, q⟩ := q
  exact ⟨g, S, fun _ _ _ z => (nomatch z), q⟩
theorem bv_cons {st : Stmt} {sts : List Stmt} (h : Sv X H0 G st (some G1) R) (h2 : Bv X H0 G1 sts G' R) : Bv X H0 G (st :: sts) G' R := by
  refine PSs_imp (pss_cons h h2) fun D σ H q => ?_
  obtain ⟨g, S, qn, q⟩ := q
  refine ⟨g, S, fun C σ1 H1 e s1 S1 => ?_, q⟩
  cases e
  exact ⟨g.trans s1, S1, fun C σ2 H2 e s2 S2 => qn C σ2 H2 e (s1.trans s2) S2, fun v H2 s2 r => q v H2 (s1.trans s2) r⟩
theorem bv_ret {sts : List Stmt} (h : Ev X H0 G e Ra) (l : Ra.le R) : Bv X H0 G (.Return (some e) pos :: sts) G' R := by
  refine Sv.ret (PS_imp (ps_ret h) fun D σ H q => ?_)
  obtain ⟨g, S, _, q⟩ := q
  exact ⟨g, S, fun v H' s r => q v H' s (l _ _ r)⟩
theorem bv_set {sts : List Stmt} {i : Nat} {pos' : Pos} (B : Body X) (hx : X.env.scope.names.lookup x ≠ none) (h : Ev X H0 G e Ra) (c : SetCtx x (some Ra) G G1 i) (h2 : Bv X H0 G1 sts G' R) (hs : swapsWith e (some (.Name x pos')) pos.line X.env = pure false) :
    Bv X H0 G (.Assign [.Name x pos'] e pos :: sts) G' R := by
  refine bv_cons (G1 := G1) ?_ h2
  by_cases hN : X.N = G.map (·.1)
  · have hi : X.N[i]? = some x := by rw [hN]; exact c.name
    refine PS_imp (ps_set (i := i) B.nd hi (B.locOf (List.mem_of_getElem? hi) hx) h hs (.inl (B.fn x))) fun D σ H q => ?_
    obtain ⟨g, S, qn, q⟩ := q
    exact ⟨g, S, fun v H' s r => qn _ _ _ rfl s (Slots.set (vis_of_loc (B.locOf (List.mem_of_getElem? hi) hx)) c (S.up s) r)⟩
  · exact PS_imp ps_never fun D σ H q => hN q.2.1.1
theorem bv_expr {sts : List Stmt} (h : Ev X H0 G e Ra) (h2 : Bv X H0 G sts G' R) (hs : swapsWith e none pos.line X.env = pure false) : Bv X H0 G (.Expr e pos :: sts) G' R := by
  refine bv_cons (G1 := G) (PS_imp (ps_expr h hs) fun D σ H q => ?_) h2
  obtain ⟨g, S, qn, q⟩ := q
  exact ⟨g, S, fun v H' s r => qn _ _ _ rfl s (S.up s)⟩
/-- an if; a branch hands back (none) or is followed by the rest from what it leaves -/
theorem sv_if {t f : List Stmt} (hc : Tv X H0 G c u) (ht : u = true → Bv X H0 G t G' R) (hf : u = false → Bv X H0 G f G' R) : Sv X H0 G (.If c t f pos) G' R := by
  cases u with
  | true =>
    refine PS_imp (ps_if hc (ht rfl) pss_never) fun D σ H q => ?_
    obtain ⟨g, S, qn, q⟩ := q
    exact ⟨g, S, fun H1 s1 => iteT ⟨g.trans s1, S.up s1, fun C σ2 H2 e s2 S2 => qn C σ2 H2 e (s1.trans s2) S2, fun v H2 s2 r => q v H2 (s1.trans s2) r⟩⟩
  | false =>
    refine PS_imp (ps_if hc pss_never (hf rfl)) fun D σ H q => ?_
    obtain ⟨g, S, qn, q⟩ := q
    exact ⟨g, S, fun H1 s1 => iteF ⟨g.trans s1, S.up s1, fun C σ2 H2 e s2 S2 => qn C σ2 H2 e (s1.trans s2) S2, fun v H2 s2 r => q v H2 (s1.trans s2) r⟩⟩
theorem bv_if {t f sts : List Stmt} (hc : Tv X H0 G c u) (ht : u = true → Bv X H0 G t (some G1) R) (ht2 : u = true → Bv X H0 G1 sts G' R) (hf : u = false → Bv X H0 G f (some G2) R) (hf2 : u = false → Bv X H0 G2 sts G' R) :
    Bv X H0 G (.If c t f pos :: sts) G' R := by
  cases u with
  | true => exact bv_cons (sv_if (u := true) (G' := some G1) hc (fun _ => ht rfl) (fun z => nomatch z)) (ht2 rfl)
  | false => exact bv_cons (sv_if (u := false) (G' := some G2) hc (fun z => nomatch z) (fun _ => hf rfl)) (hf2 rfl)
/-- a way that cannot be -/
theorem bv_never {sts : List Stmt} {x : Str} {R0 : Rel} (hn : ∀ v H, ¬ R0.p v H) : Bv X H0 ((x, some R0) :: G) sts G' R := PSs_imp pss_never fun D σ H q => by
  obtain ⟨_, v, _, r⟩ := q.2.1.2.2 0 x R0 rfl
  exact hn _ _ r
/-- contexts that tell less -/
inductive CtxLe : Ctx → Ctx → Prop
  | nil : CtxLe [] []
  | some {x : Str} {S S' : Rel} {C C' : Ctx} (h : S.le S') (t : CtxLe C C') : CtxLe ((x, some S) :: C) ((x, some S') :: C')
  | none {x : Str} {o : Option Rel} {C C' : Ctx} (t : CtxLe C C') : CtxLe ((x, o) :: C) ((x, none) :: C')
theorem CtxLe.names {C C' : Ctx} (h : CtxLe C C') : C'.map (·.1) = C.map (·.1) ∧ C'.length = C.length := by
  induction h with
  | nil => exact ⟨rfl, rfl⟩
  | some _ _ ih => simp [ih]
  | none _ ih => simp [ih]
theorem CtxLe.get {C C' : Ctx} (h : CtxLe C C') : ∀ {i : Nat} {x : Str} {S' : Rel}, C'[i]? = Option.some (x, Option.some S') → ∃ S, C[i]? = Option.some (x, Option.some S) ∧ S.le S' := by
  induction h with
  | nil => intro i x S' e; simp at e
  | some h _ ih =>
    intro i x S' e
    cases i with
    | zero => simp at e; obtain ⟨rfl, rfl⟩ := e; exact ⟨_, rfl, h⟩
    | succ i => exact ih (i := i) (by simpa using e)
  | none _ ih =>
    intro i x S' e
    cases i with
    | zero => simp at e
    | succ i => exact ih (i := i) (by simpa using e)
theorem Slots.le {C C' : Ctx} {σ : St} {H : Hp} (l : CtxLe C C') (h : Slots X C σ H) : Slots X C' σ H := by
  refine ⟨by rw [l.names.1]; exact h.1, by rw [l.names.2]; exact h.2.1, fun i x R e => ?_⟩
  obtain ⟨S, e', l'⟩ := l.get e
  obtain ⟨k, v, a, b⟩ := h.2.2 i x S e'
  exact ⟨k, v, a, l' _ _ b⟩
theorem bv_le {sts : List Stmt} (l : CtxLe G G1) (h : Bv X H0 G1 sts G' R) : Bv X H0 G sts G' R := PSs_imp h fun D σ H q => ⟨q.1, q.2.1.le l, q.2.2⟩
/-- if c: (hands back) .. rest -/
theorem bv_ifr {t sts : List Stmt} (hc : Tv X H0 G c u) (ht : u = true → Bv X H0 G t none R) (hf2 : u = false → Bv X H0 G sts G' R) : Bv X H0 G (.If c t [] pos :: sts) G' R := by
  cases u with
  | true => exact Sv.ret (sv_if (u := true) hc (fun _ => ht rfl) (fun z => nomatch z))
  | false => exact bv_cons (sv_if (u := false) (G' := some G) hc (fun z => nomatch z) (fun _ => bv_nil)) (hf2 rfl)
end
/-- a def that is pure: such arguments, such an answer -/
def spF {α : Type} (args : α → List Rel) (side : α → Prop) (post : α → Rel) : Sp := fun vs H Q _ => ∃ x : α, side x ∧ Args (args x) vs H ∧ ∀ v H', Same H H' → (post x).p v H' → Q v H'
/-- the context at a def's entry -/
def ctx0 : List Str → List Rel → Ctx
  | x :: xs, R :: Rs => (x, some R) :: ctx0 xs Rs
  | x :: xs, [] => (x, none) :: ctx0 xs []
  | [], _ => []
theorem ctx0_names : ∀ {N : List Str} {Rs : List Rel}, (ctx0 N Rs).map (·.1) = N
  | [], [] => rfl
  | [], _ :: _ => rfl
  | x :: xs, [] => by show x :: (ctx0 xs []).map (·.1) = _; rw [ctx0_names]
  | x :: xs, R :: Rs => by show x :: (ctx0 xs Rs).map (·.1) = _; rw [ctx0_names]
theorem ctx0_get : ∀ {N : List Str} {Rs : List Rel} {i : Nat} {x : Str} {R : Rel}, (ctx0 N Rs)[i]? = some (x, some R) → Rs[i]? = some R
  | [], [], _, _, _, h => by simp [ctx0] at h
  | [], _ :: _, _, _, _, h => by simp [ctx0] at h
  | x :: xs, [], 0, _, _, h => by simp [ctx0] at h
  | x :: xs, [], i + 1, y, R, h => by
    have q := ctx0_get (N := xs) (Rs := []) (i := i) (x := y) (R := R) (by simpa [ctx0] using h)
    simp at q
  | x :: xs, R :: Rs, 0, _, _, h => by
    simp [ctx0] at h
    simp [h.2]
  | x :: xs, R :: Rs, i + 1, y, R', h => by
    have q := ctx0_get (N := xs) (Rs := Rs) (i := i) (x := y) (R := R') (by simpa [ctx0] using h)
    simpa using q
theorem Args.get : ∀ {Rs : List Rel} {vs : List V} {H : Hp} {i : Nat} {R : Rel}, Args Rs vs H → Rs[i]? = some R → ∃ v, vs[i]? = some v ∧ R.p v H
  | [], [], _, _, _, _, h => by simp at h
  | R :: Rs, v :: vs, H, 0, S, a, h => by simp at h; subst h; exact ⟨v, rfl, a.1⟩
  | R :: Rs, v :: vs, H, i + 1, S, a, h => by
    obtain ⟨w, e, r⟩ := Args.get (i := i) a.2 (by simpa using h)
    exact ⟨w, by simpa using e, r⟩
  | [], _ :: _, _, _, _, a, _ => a.elim
  | _ :: _, [], _, _, _, a, _ => a.elim
theorem ctx0_mem {N : List Str} {Rs : List Rel} {i : Nat} {x : Str} {o : Option Rel} (h : (ctx0 N Rs)[i]? = some (x, o)) : x ∈ N := by
  rw [← ctx0_names (N := N) (Rs := Rs)]
  exact List.mem_map.mpr ⟨_, List.mem_of_getElem? h, rfl⟩
theorem slots0 {X : Cx} {N : List Str} {Rs : List Rel} {vs : List V} {H : Hp} (hv : ∀ (i : Nat) (x : Str), i < Rs.length → N[i]? = some x → Vis X.env.scope x) (hN : X.N = N) (a : Args Rs vs H) (hl : Rs.length ≤ N.length) : Slots X (ctx0 N Rs) (L2.start N vs) H := by
  have e1 := a.length
  refine ⟨by rw [ctx0_names]; exact hN, ?_, fun i x R h => ?_⟩
  · have e2 : (ctx0 N Rs).length = N.length := by rw [← List.length_map (f := (·.1)), ctx0_names]
    unfold L2.start
    rw [e2, List.length_append, List.length_map, List.length_replicate]
    omega
  · obtain ⟨v, e, r⟩ := a.get (ctx0_get h)
    have hq : N[i]? = some x := by rw [← ctx0_names (N := N) (Rs := Rs), List.getElem?_map, h]; rfl
    refine ⟨hv i x (List.getElem?_eq_some_iff.mp (ctx0_get h)).1 hq, v, ?_, r⟩
    unfold L2.start
    have hi : i < vs.length := (List.getElem?_eq_some_iff.mp e).1
    rw [List.getElem?_append_left (by simpa using hi), List.getElem?_map, e]
    rfl
section
variable {P : Program} {w : World} {K : PySem.W.Frag} {mg : Str → Option Value} {base : Heap}
/-- a def of the text, at its name -/
structure DefAt (K : PySem.W.Frag) (mg : Str → Option Value) (x : Str) (st : Stmt) : Prop where
  ex : ∃ f fd, Fun K x x st f fd ∧ mg x = some (.ref f)
/-- it keeps a promise -/
structure DefOk (P : Program) (w : World) (K : PySem.W.Frag) (mg : Str → Option Value) (base : Heap) (x : Str) (CX : CXT) (k : Nat) (ps : List Str) (ds : List V) (sp : Sp) : Prop where
  ex : ∃ f fd dv, FnOk P w K mg base CX k f fd ps sp ∧ mg x = some (.ref f) ∧ PySem.W.keepIn K (.ref f) = true ∧ Binds K fd ps dv ∧ Vals ds dv
theorem DefOk.at {X : Cx} {x : Str} {k : Nat} {ps : List Str} {α : Type} {args : α → List Rel} {side : α → Prop} {post : α → Rel} (D : DefOk X.prog X.w X.K X.mg X.base x CX0 k ps [] (spF args side post)) (hr : Room k X.A) (a : α) (h : side a) :
    CallOk X x (args a) (post a) := by
  obtain ⟨f, fd, dv, F, hm, hk, hb, hd⟩ := D.ex
  refine ⟨CX0, E0, k, f, fd, ps, _, dv, [], F, hr, hm, hk, hb, hd, fun _ _ _ => pass0, fun vs H Q hv q => ?_⟩
  rw [List.append_nil]
  exact ⟨a, h, hv, q⟩
abbrev bcx (P : Program) (w : World) (K : PySem.W.Frag) (mg : Str → Option Value) (base : Heap) (N : List Str) (qual : Str) (sc : Scope) (f : Addr) (cd : Value) (A : Around) (outer : List Env) (s : Shared) (H : Hp) (E : XK) : Cx := (cxOf CX0 P w K mg base N qual sc f cd A outer s H E).nox
/-- THE RULE for a pure def -/
theorem pure_fn {x : Str} {st : Stmt} {N ps : List Str} {k : Nat} {α : Type} {args : α → List Rel} {side : α → Prop} {post : α → Rel} {f : Addr} {fd : FuncData} (F : Fun K x x st f fd) (S : FnScope N ps (defScope st)) (loc : ∀ y ∈ N, Loc (defScope st) y ∨ (defScope st).names.lookup y = none) (hl : ∀ a, (args a).length = ps.length)
    (h : ∀ (a : α) (X : Cx) (H0 : Hp), side a → Body X → X.prog = P → X.w = w → X.K = K → X.mg = mg → X.base = base → X.env.scope = defScope st → X.N = N → Room k X.A → ∃ G', Bv X H0 (ctx0 N (args a)) (defBody st) G' (post a) ∧ (∀ C, G' = some C → ∀ H, (post a).p .non H)) :
    FnOk P w K mg base CX0 (k + 1) f fd ps (spF args side post) := by
  refine F.ok S (fun vs H Q E hs => ?_) (fun cdv A outer s H vs Q E hr hs => ?_)
  · obtain ⟨a, _, ha, _⟩ := hs
    rw [ha.length, hl]
  · obtain ⟨a, hsd, ha, q⟩ := hs
    obtain ⟨G', hB, hn⟩ := h a (cxOf CX0 P w K mg base N x (defScope st) f cdv A outer s H E).nox H hsd ⟨rfl, S.nd, loc, fun _ => rfl, PassesOwn.never⟩ rfl rfl rfl rfl rfl rfl rfl hr
    refine ⟨_, hB, Same.refl H, slots0 (fun i y hi hy => ?_) rfl ha ?_, fun C σ' H' e s' _ => q _ _ s' (hn C e _), fun v H' s' r => q v H' s' r⟩
    · refine vis_of_loc (S.par y ?_)
      rw [← S.pre]
      rw [hl] at hi
      exact List.mem_of_getElem? (i := i) (by rw [List.getElem?_take, if_pos hi]; exact hy)
    rw [hl]
    have := congrArg List.length S.pre
    rw [List.length_take] at this
    omega
theorem pure_ok {x : Str} {st : Stmt} {N ps : List Str} {k : Nat} {α : Type} {args : α → List Rel} {side : α → Prop} {post : α → Rel} (F : DefAt K mg x st) (S : FnScope N ps (defScope st)) (loc : ∀ y ∈ N, Loc (defScope st) y ∨ (defScope st).names.lookup y = none) (hl : ∀ a, (args a).length = ps.length)
    (hb : ∀ (kV doc pm : Value) (an : Option Addr) (cdv ct : Value) (us : List Value), us.length = ps.length → bindArgs (PySem.W.fnOf x x (defArgs st) (defBody st) (defScope st) .none kV doc pm an cdv ct) ⟨us, []⟩ = pure (ps.zip us))
    (h : ∀ (a : α) (X : Cx) (H0 : Hp), side a → Body X → X.prog = P → X.w = w → X.K = K → X.mg = mg → X.base = base → X.env.scope = defScope st → X.N = N → Room k X.A → ∃ G', Bv X H0 (ctx0 N (args a)) (defBody st) G' (post a) ∧ (∀ C, G' = some C → ∀ H, (post a).p .non H)) :
    DefOk P w K mg base x CX0 (k + 1) ps [] (spF args side post) := by
  obtain ⟨f, fd, F, hm⟩ := F.ex
  exact ⟨f, fd, [], pure_fn F S loc hl h, hm, F.kp, F.binds hb, .nil⟩
theorem defAt_mk {x : Str} {st : Stmt} {h : Heap} {f : Addr} {oc : Value} {od an : Option Addr} {osl : Array (Option Value)} {kV doc pm cdv ct : Value} (X : K.In h) (G : h.Ns mainGlobals mg) (a : PySem.W.nsIn K mainGlobals x = some (some (.ref f)))
    (l : K.lookup f = some ⟨oc, od, .func (PySem.W.fnOf x x (defArgs st) (defBody st) (defScope st) .none kV doc pm an cdv ct), osl⟩) (c : PySem.W.codeIn K cdv x = true) (k : PySem.W.keepIn K (.ref f) = true) : DefAt K mg x st := ⟨_, _, fun_mk l c k, PySem.W.mg_of X G a⟩
/-- THE RULE for a pure def that calls itself: a measure falls at its own calls -/
theorem pure_rec {x : Str} {st : Stmt} {N ps : List Str} (c : Nat) {α : Type} {args : α → List Rel} {side : α → Prop} {post : α → Rel} (meas : α → Nat) (F : DefAt K mg x st) (S : FnScope N ps (defScope st)) (loc : ∀ y ∈ N, Loc (defScope st) y ∨ (defScope st).names.lookup y = none) (hl : ∀ a, (args a).length = ps.length)
    (hb : ∀ (kV doc pm : Value) (an : Option Addr) (cdv ct : Value) (us : List Value), us.length = ps.length → bindArgs (PySem.W.fnOf x x (defArgs st) (defBody st) (defScope st) .none kV doc pm an cdv ct) ⟨us, []⟩ = pure (ps.zip us))
    (h : ∀ (a : α) (X : Cx) (H0 : Hp), side a → (∀ a', side a' → meas a' < meas a → CallOk X x (args a') (post a')) → Body X → X.prog = P → X.w = w → X.K = K → X.mg = mg → X.base = base → X.env.scope = defScope st → X.N = N → Room c X.A → ∃ G', Bv X H0 (ctx0 N (args a)) (defBody st) G' (post a) ∧ (∀ C, G' = some C → ∀ H, (post a).p .non H)) :
    ∀ n : Nat, DefOk P w K mg base x CX0 (n + c + 1) ps [] (spF args (fun a => side a ∧ meas a < n) post)
  | 0 => pure_ok F S loc hl hb fun a X H0 hs => absurd hs.2 (Nat.not_lt_zero _)
  | n + 1 => pure_ok F S loc hl hb fun a X H0 hs B e1 e2 e3 e4 e5 hsc hN hr => by
    have ih := pure_rec c meas F S loc hl hb h n
    subst e1 e2 e3 e4 e5
    refine h a X H0 hs.1 (fun a' sa' hm => ?_) B rfl rfl rfl rfl rfl hsc hN (hr.mono (by omega))
    have D : CallOk X x (args a') (post a') := ih.at (hr.mono (by omega)) a' ⟨sa', by have := hs.2; omega⟩
    exact D
end
end Fk

/-! operations on whole numbers, truths, texts; own parts -/
namespace Fk
open PySem L2
section
variable {X : Cx} {i j : Int} {u v : Bool} {x y : Str}
theorem op2_I0 {f : Value → Value → Sem Value} {g : Int → Int → V} {R : Rel} (h : OpR X f (rI0 g)) (hg : ∀ H, R.p (g i j) H) : Op2 X f (intR i) (intR j) R :=
  ⟨_, h, fun x y H Q hx hy q => ⟨i, j, hx, hy, q _ _ (Same.refl H) (hg H)⟩⟩
theorem op2_I {f : Value → Value → Sem Value} {C : Int → Int → Prop} {g : Int → Int → V} {R : Rel} (h : OpR X f (rI C g)) (hc : C i j) (hg : ∀ H, R.p (g i j) H) : Op2 X f (intR i) (intR j) R :=
  ⟨_, h, fun x y H Q hx hy q => ⟨i, j, hx, hy, hc, q _ _ (Same.refl H) (hg H)⟩⟩
theorem o_add : Op2 X (binaryOp .Add) (intR i) (intR j) (intR (i + j)) := op2_I0 op_add fun _ => rfl
theorem o_sub : Op2 X (binaryOp .Sub) (intR i) (intR j) (intR (i - j)) := op2_I0 op_sub fun _ => rfl
theorem o_mul (h : CMul i j) : Op2 X (binaryOp .Mult) (intR i) (intR j) (intR (i * j)) := op2_I op_mul h fun _ => rfl
theorem o_div (h : CDiv i j) : Op2 X (binaryOp .FloorDiv) (intR i) (intR j) (intR (i / j)) := op2_I op_fdiv h fun _ => rfl
theorem o_mod (h : 0 < j) : Op2 X (binaryOp .Mod) (intR i) (intR j) (intR (i % j)) := op2_I op_mod h fun _ => rfl
theorem o_pow (h : CPow i j) : Op2 X (binaryOp .Pow) (intR i) (intR j) (intR (i ^ j.toNat)) := op2_I op_pow h fun _ => rfl
theorem o_lt : Op2 X (compareOp .Lt) (intR i) (intR j) (blR (decide (i < j))) := op2_I0 op_lt fun _ => rfl
theorem o_le : Op2 X (compareOp .LtE) (intR i) (intR j) (blR (decide (i ≤ j))) := op2_I0 op_le fun _ => rfl
theorem o_gt : Op2 X (compareOp .Gt) (intR i) (intR j) (blR (decide (j < i))) := op2_I0 op_gt fun _ => rfl
theorem o_ge : Op2 X (compareOp .GtE) (intR i) (intR j) (blR (decide (j ≤ i))) := op2_I0 op_ge fun _ => rfl
theorem o_eqI : Op2 X (compareOp .Eq) (intR i) (intR j) (blR (decide (i = j))) :=
  ⟨_, op_eq, fun x y H Q hx hy q => by subst hx; subst hy; exact ⟨rfl, q _ _ (Same.refl H) (by show V.bl _ = V.bl _; rw [dec_int, Bool.beq_eq_decide_eq])⟩⟩
theorem o_neI : Op2 X (compareOp .NotEq) (intR i) (intR j) (blR (!decide (i = j))) :=
  ⟨_, op_ne, fun x y H Q hx hy q => by subst hx; subst hy; exact ⟨rfl, q _ _ (Same.refl H) (by show V.bl _ = V.bl _; rw [dec_int, Bool.beq_eq_decide_eq])⟩⟩
theorem o_eqB : Op2 X (compareOp .Eq) (blR u) (blR v) (blR (decide (u = v))) :=
  ⟨_, op_eq, fun x y H Q hx hy q => by subst hx; subst hy; exact ⟨rfl, q _ _ (Same.refl H) (by show V.bl _ = V.bl _; rw [dec_bl]; cases u <;> cases v <;> rfl)⟩⟩
theorem o_neB : Op2 X (compareOp .NotEq) (blR u) (blR v) (blR (!decide (u = v))) :=
  ⟨_, op_ne, fun x y H Q hx hy q => by subst hx; subst hy; exact ⟨rfl, q _ _ (Same.refl H) (by show V.bl _ = V.bl _; rw [dec_bl]; cases u <;> cases v <;> rfl)⟩⟩
theorem o_isB : Op2 X (compareOp .Is) (blR u) (blR v) (blR (decide (u = v))) :=
  ⟨_, op_isBl, fun x y H Q hx hy q => ⟨u, v, hx, hy, q _ _ (Same.refl H) rfl⟩⟩
theorem o_nisB : Op2 X (compareOp .IsNot) (blR u) (blR v) (blR (!decide (u = v))) :=
  ⟨_, op_notBl, fun x y H Q hx hy q => ⟨u, v, hx, hy, q _ _ (Same.refl H) rfl⟩⟩
/-- what has a type -/
def TyIs (K : PySem.W.Frag) (R : Rel) (t : String) : Prop := ∀ v H, R.p v H → TyX K H v (.type t)
theorem ty_int {K : PySem.W.Frag} : TyIs K (intR i) "int" := fun v H h => by cases h; exact .base (.int _)
theorem ty_bl {K : PySem.W.Frag} : TyIs K (blR u) "bool" := fun v H h => by cases h; exact .base (.bl _)
theorem ty_str {K : PySem.W.Frag} : TyIs K (strR x) "str" := fun v H h => by cases h; exact .base (.str _)
theorem ty_non {K : PySem.W.Frag} : TyIs K nonR "NoneType" := fun v H h => by cases h; exact .base .non
theorem ty_tup {K : PySem.W.Frag} {Rs : List Rel} : TyIs K (tupR Rs) "tuple" := fun v H h => by
  obtain ⟨a, vs, rfl, h, _⟩ := h
  exact .base (.tup h)
theorem ty_lst {K : PySem.W.Frag} {Rs : List Rel} : TyIs K (lstR Rs) "list" := fun v H h => by
  obtain ⟨a, vs, rfl, h, _⟩ := h
  exact .base (.lst h)
/-- isinstance(x, T), T a built-in type -/
theorem cb_isi {R : Rel} {t T : String} {b : Bool} (hm : X.mg "isinstance" = none) (ht : TyIs X.K R t) (hk : kitB t T = some b) : CallB X "isinstance" [R, tyR T] (blR b) :=
  ⟨hm, _, _, call_isi, by decide +kernel, .inl ⟨_, rfl⟩, fun vs H Q h q => by
    obtain ⟨v, w, rfl, h1, h2⟩ := h.two
    cases h2
    exact ⟨v, .ty T, .type t, .type T, b, rfl, .ty T, ht _ _ h1, kit_ty hk, q _ _ (Same.refl H) rfl⟩⟩
/-- items of a tuple, of a list -/
theorem ix_tupR {Rs : List Rel} {R : Rel} {n : Nat} (hi : i = (n : Int)) (h : Rs[n]? = some R) : IxOk X (tupR Rs) (intR i) R :=
  ⟨_, ix_tup, fun x y H Q hx hy q => by
    obtain ⟨a, vs, rfl, ha, hs⟩ := hx
    obtain ⟨v, e, r⟩ := hs.get h
    exact ⟨a, vs, i, v, rfl, hy, SqT.of ha, by rw [hi]; exact atI_nat e, q _ _ (Same.refl H) r⟩⟩
theorem ix_lstR {Rs : List Rel} {R : Rel} {n : Nat} (hi : i = (n : Int)) (h : Rs[n]? = some R) : IxOk X (lstR Rs) (intR i) R :=
  ⟨_, ix_list, fun x y H Q hx hy q => by
    obtain ⟨a, vs, rfl, ha, hs⟩ := hx
    obtain ⟨v, e, r⟩ := hs.get h
    exact ⟨a, vs, i, v, rfl, hy, SqL.of ha, by rw [hi]; exact atI_nat e, q _ _ (Same.refl H) r⟩⟩
end

/-! ### == at any depth -/
/-- the value reads as d -/
def DatIs (K : PySem.W.Frag) (R : Rel) (d : PyData) : Prop := ∀ v H, R.p v H → Dp K H v d
section
variable {X : Cx} {Ra Rb : Rel} {d e : PyData}
theorem o_eqD {b : Bool} (hu : X.A.units + 64 < cLine) (ha : DatIs X.K Ra d) (hb : DatIs X.K Rb e) (sd : SeqAt.shaped d = true) (se : SeqAt.shaped e = true) (h : PyData.eqv d e = b) : Op2 X (compareOp .Eq) Ra Rb (blR b) :=
  ⟨_, op_eqD hu, fun x y H Q hx hy q => ⟨d, e, ha _ _ hx, hb _ _ hy, sd, se, q _ _ (Same.refl H) (by rw [h]; rfl)⟩⟩
theorem o_neD {b : Bool} (hu : X.A.units + 64 < cLine) (ha : DatIs X.K Ra d) (hb : DatIs X.K Rb e) (sd : SeqAt.shaped d = true) (se : SeqAt.shaped e = true) (h : PyData.eqv d e = b) : Op2 X (compareOp .NotEq) Ra Rb (blR (!b)) :=
  ⟨_, op_neD hu, fun x y H Q hx hy q => ⟨d, e, ha _ _ hx, hb _ _ hy, sd, se, q _ _ (Same.refl H) (by rw [h]; rfl)⟩⟩
theorem dat_int {K : PySem.W.Frag} {i : Int} : DatIs K (intR i) (.int i) := fun v H h => by cases h; exact .int i
theorem dat_bl {K : PySem.W.Frag} {i : Bool} : DatIs K (blR i) (.bool i) := fun v H h => by cases h; exact .bl i
theorem dat_str {K : PySem.W.Frag} {i : Str} : DatIs K (strR i) (.str i) := fun v H h => by cases h; exact .str i
theorem dat_non {K : PySem.W.Frag} : DatIs K nonR .none := fun v H h => by cases h; exact .non
end

/-! ### own parts -/
def bi : Bool → Int
  | true => 1
  | false => 0
inductive Own where
  | leaf (b : Bool)
  | node (l r : Own)
  deriving DecidableEq
namespace Own
def depth : Own → Nat
  | leaf _ => 0
  | node l r => max l.depth r.depth + 1
def isNode : Own → Bool
  | leaf _ => false
  | node _ _ => true
def dat : Own → PyData
  | leaf b => .int (bi b)
  | node l r => .tuple [l.dat, r.dat]
theorem dat_depth : ∀ o : Own, o.dat.depth = o.depth
  | leaf _ => by simp [dat, PyData.depth, depth]
  | node l r => by simp [dat, PyData.depth, PyData.depthAll, depth, dat_depth l, dat_depth r]
theorem dat_lay : ∀ o : Own, o.dat.canLay0 = true
  | leaf _ => by simp [dat, PyData.canLay0]
  | node l r => by simp [dat, PyData.canLay0, PyData.canLayAll0, dat_lay l, dat_lay r]
theorem shaped {o : Own} (h : o.depth ≤ 64) : SeqAt.shaped o.dat = true := by
  unfold SeqAt.shaped
  rw [dat_lay, dat_depth, decide_eq_true h]
  rfl
theorem bi_eq (a b : Bool) : (bi a == bi b) = decide (a = b) := by cases a <;> cases b <;> rfl
theorem eqv : ∀ a b : Own, PyData.eqv a.dat b.dat = decide (a = b)
  | leaf a, leaf b => by
    simp only [dat, PyData.eqv, bi_eq, leaf.injEq]
  | leaf a, node l r => by simp [dat, PyData.eqv]
  | node l r, leaf a => by simp [dat, PyData.eqv]
  | node l r, node l' r' => by
    simp only [dat, PyData.eqv, PyData.eqvAll, eqv l l', eqv r r', node.injEq, Bool.and_true]
    by_cases h1 : l = l' <;> by_cases h2 : r = r' <;> simp [h1, h2]
end Own
def OwnP : Own → V → Hp → Prop
  | .leaf b, v, _ => v = .int (bi b)
  | .node l r, v, H => ∃ a vl vr, v = .ref a ∧ H a = some (.tup [vl, vr]) ∧ OwnP l vl H ∧ OwnP r vr H
theorem OwnP.up : ∀ {o : Own} {v : V} {H H' : Hp}, Same H H' → OwnP o v H → OwnP o v H'
  | .leaf _, _, _, _, _, h => h
  | .node _ _, _, _, _, s, ⟨a, vl, vr, e, h, hl, hr⟩ => ⟨a, vl, vr, e, s _ _ h, OwnP.up s hl, OwnP.up s hr⟩
def ownR (o : Own) : Rel := ⟨OwnP o, fun s h => h.up s⟩
theorem own_dat {K : PySem.W.Frag} : ∀ (o : Own), DatIs K (ownR o) o.dat
  | .leaf b, v, H, h => by
    cases h
    exact .int _
  | .node l r, v, H, h => by
    obtain ⟨a, vl, vr, rfl, h, hl, hr⟩ := h
    exact .tup (SqT.of h) (.cons (own_dat l _ _ hl) (.cons (own_dat r _ _ hr) .nil))
theorem le_bl {u v : Bool} (h : u = v) : (blR u).le (blR v) := by subst h; exact Rel.le.refl _
theorem le_in {i j : Int} (h : i = j) : (intR i).le (intR j) := by subst h; exact Rel.le.refl _
theorem le_oeq {a b : Own} (h : a = b) : (ownR a).le (ownR b) := by subst h; exact Rel.le.refl _
theorem le_own0 : (intR 0).le (ownR (.leaf false)) := fun _ _ h => h
theorem le_own1 : (intR 1).le (ownR (.leaf true)) := fun _ _ h => h
theorem le_ownB {b : Bool} : (intR (bi b)).le (ownR (.leaf b)) := fun _ _ h => h
theorem le_ownT {Ra Rb : Rel} {l r : Own} (ha : Ra.le (ownR l)) (hb : Rb.le (ownR r)) : (tupR [Ra, Rb]).le (ownR (.node l r)) := fun v H h => by
  obtain ⟨a, vs, rfl, h, hs⟩ := h
  obtain ⟨vl, vr, rfl, h1, h2⟩ := hs.two
  exact ⟨a, vl, vr, rfl, h, ha _ _ h1, hb _ _ h2⟩
theorem own_tup {l r : Own} : (ownR (.node l r)).le (tupR [ownR l, ownR r]) := fun v H h => by
  obtain ⟨a, vl, vr, rfl, h, hl, hr⟩ := h
  exact ⟨a, [vl, vr], rfl, h, hl, hr, trivial⟩
theorem IxOk.le {X : Cx} {Ra Ra' Rb R : Rel} (h : IxOk X Ra Rb R) (l : Ra'.le Ra) : IxOk X Ra' Rb R := by
  obtain ⟨r, a, b⟩ := h
  exact ⟨r, a, fun x y H Q hx hy q => b x y H Q (l _ _ hx) hy q⟩
theorem Op2.le {X : Cx} {f : Value → Value → Sem Value} {Ra Ra' Rb Rb' R : Rel} (h : Op2 X f Ra Rb R) (l : Ra'.le Ra) (l' : Rb'.le Rb) : Op2 X f Ra' Rb' R := by
  obtain ⟨r, a, b⟩ := h
  exact ⟨r, a, fun x y H Q hx hy q => b x y H Q (l _ _ hx) (l' _ _ hy) q⟩
section
variable {X : Cx} {o a b l r : Own} {u : Bool}
theorem ix_ownL : IxOk X (ownR (.node l r)) (intR 0) (ownR l) := (ix_tupR (Rs := [ownR l, ownR r]) (n := 0) rfl rfl).le own_tup
theorem ix_ownR : IxOk X (ownR (.node l r)) (intR 1) (ownR r) := (ix_tupR (Rs := [ownR l, ownR r]) (n := 1) rfl rfl).le own_tup
theorem ty_own {K : PySem.W.Frag} (o : Own) : TyIs K (ownR o) (if o.isNode then "tuple" else "int") := by
  cases o with
  | leaf b => exact fun v H h => by cases h; exact .base (.int _)
  | node l r => exact fun v H h => by obtain ⟨a, vl, vr, rfl, h, _⟩ := h; exact .base (.tup h)
theorem isi_own_tup (hm : X.mg "isinstance" = none) : CallB X "isinstance" [ownR o, tyR "tuple"] (blR o.isNode) := by
  refine cb_isi hm (ty_own o) ?_
  cases o with
  | leaf b => exact (by decide +kernel : kitB "int" "tuple" = some false)
  | node l r => exact (by decide +kernel : kitB "tuple" "tuple" = some true)
theorem isi_own_bool (hm : X.mg "isinstance" = none) : CallB X "isinstance" [ownR o, tyR "bool"] (blR false) := by
  refine cb_isi hm (ty_own o) ?_
  cases o with
  | leaf b => exact (by decide +kernel : kitB "int" "bool" = some false)
  | node l r => exact (by decide +kernel : kitB "tuple" "bool" = some false)
theorem eq_own (hu : X.A.units + 64 < cLine) (ha : a.depth ≤ 64) (hb : b.depth ≤ 64) : Op2 X (compareOp .Eq) (ownR a) (ownR b) (blR (decide (a = b))) := o_eqD hu (own_dat a) (own_dat b) (Own.shaped ha) (Own.shaped hb) (Own.eqv a b)
theorem ne_own (hu : X.A.units + 64 < cLine) (ha : a.depth ≤ 64) (hb : b.depth ≤ 64) : Op2 X (compareOp .NotEq) (ownR a) (ownR b) (blR (!decide (a = b))) := o_neD hu (own_dat a) (own_dat b) (Own.shaped ha) (Own.shaped hb) (Own.eqv a b)
theorem eq_own0 (hu : X.A.units + 64 < cLine) (ha : a.depth ≤ 64) : Op2 X (compareOp .Eq) (ownR a) (intR 0) (blR (decide (a = .leaf false))) := (eq_own hu ha (Nat.zero_le _)).le (.refl _) le_own0
theorem eq_own1 (hu : X.A.units + 64 < cLine) (ha : a.depth ≤ 64) : Op2 X (compareOp .Eq) (ownR a) (intR 1) (blR (decide (a = .leaf true))) := (eq_own hu ha (Nat.zero_le _)).le (.refl _) le_own1
theorem ne_own0 (hu : X.A.units + 64 < cLine) (ha : a.depth ≤ 64) : Op2 X (compareOp .NotEq) (ownR a) (intR 0) (blR (!decide (a = .leaf false))) := (ne_own hu ha (Nat.zero_le _)).le (.refl _) le_own0
theorem ne_own1 (hu : X.A.units + 64 < cLine) (ha : a.depth ≤ 64) : Op2 X (compareOp .NotEq) (ownR a) (intR 1) (blR (!decide (a = .leaf true))) := (ne_own hu ha (Nat.zero_le _)).le (.refl _) le_own1
end

/-! ### things of any kind -/
inductive Th where
  | int (i : Int)
  | bl (b : Bool)
  | oth
  | pair (l r : Th)
  | tri (a l r : Th)
  | tupn (n : Nat)
namespace Th
def depth : Th → Nat
  | pair l r => max l.depth r.depth + 1
  | tri _ l r => max l.depth r.depth + 1
  | _ => 0
end Th
def ThP : Th → V → Hp → Prop
  | .int i, v, _ => v = .int i
  | .bl b, v, _ => v = .bl b
  | .oth, v, H => v = .non ∨ (∃ x, v = .str x) ∨ (∃ a xs, v = .ref a ∧ H a = some (.lst xs)) ∨ ∃ a kvs, v = .ref a ∧ H a = some (.dK kvs)
  | .pair l r, v, H => ∃ a vl vr, v = .ref a ∧ H a = some (.tup [vl, vr]) ∧ ThP l vl H ∧ ThP r vr H
  | .tri b l r, v, H => ∃ a vb vl vr, v = .ref a ∧ H a = some (.tup [vb, vl, vr]) ∧ ThP b vb H ∧ ThP l vl H ∧ ThP r vr H
  | .tupn n, v, H => ∃ a vs, v = .ref a ∧ H a = some (.tup vs) ∧ vs.length = n ∧ n ≠ 2 ∧ n ≠ 3
theorem ThP.up : ∀ {o : Th} {v : V} {H H' : Hp}, Same H H' → ThP o v H → ThP o v H'
  | .int _, _, _, _, _, h => h
  | .bl _, _, _, _, _, h => h
  | .oth, _, _, _, s, h => by
    rcases h with h | h | ⟨a, xs, e, h⟩ | ⟨a, kvs, e, h⟩
    · exact .inl h
    · exact .inr (.inl h)
    · exact .inr (.inr (.inl ⟨a, xs, e, s _ _ h⟩))
    · exact .inr (.inr (.inr ⟨a, kvs, e, s _ _ h⟩))
  | .pair _ _, _, _, _, s, ⟨a, vl, vr, e, h, hl, hr⟩ => ⟨a, vl, vr, e, s _ _ h, ThP.up s hl, ThP.up s hr⟩
  | .tri _ _ _, _, _, _, s, ⟨a, vb, vl, vr, e, h, hb, hl, hr⟩ => ⟨a, vb, vl, vr, e, s _ _ h, ThP.up s hb, ThP.up s hl, ThP.up s hr⟩
  | .tupn _, _, _, _, s, ⟨a, vs, e, h, z⟩ => ⟨a, vs, e, s _ _ h, z⟩
def thR (t : Th) : Rel := ⟨ThP t, fun s h => h.up s⟩
def Own.th : Own → Th
  | .leaf b => .int (bi b)
  | .node l r => .pair l.th r.th
theorem Own.th_P : ∀ (o : Own) (v : V) (H : Hp), ThP o.th v H ↔ OwnP o v H
  | .leaf _, _, _ => Iff.rfl
  | .node l r, v, H => by
    constructor
    · rintro ⟨a, vl, vr, e, h, hl, hr⟩
      exact ⟨a, vl, vr, e, h, (th_P l _ _).mp hl, (th_P r _ _).mp hr⟩
    · rintro ⟨a, vl, vr, e, h, hl, hr⟩
      exact ⟨a, vl, vr, e, h, (th_P l _ _).mpr hl, (th_P r _ _).mpr hr⟩
theorem Own.th_depth : ∀ o : Own, o.th.depth = o.depth
  | .leaf _ => rfl
  | .node l r => by simp [Own.th, Th.depth, Own.depth, th_depth l, th_depth r]
theorem th_own {o : Own} : (thR o.th).le (ownR o) := fun v H h => (Own.th_P o v H).mp h
theorem own_th {o : Own} : (ownR o).le (thR o.th) := fun v H h => (Own.th_P o v H).mpr h
theorem le_thI {i : Int} : (intR i).le (thR (.int i)) := fun _ _ h => h
theorem le_thB {b : Bool} : (blR b).le (thR (.bl b)) := fun _ _ h => h
theorem le_thN : nonR.le (thR .oth) := fun _ _ h => .inl h
theorem le_thS {x : Str} : (strR x).le (thR .oth) := fun _ _ h => .inr (.inl ⟨x, h⟩)
theorem le_thL {Rs : List Rel} : (lstR Rs).le (thR .oth) := fun _ _ ⟨a, vs, e, h, _⟩ => .inr (.inr (.inl ⟨a, vs, e, h⟩))
theorem le_th2 {Ra Rb : Rel} {l r : Th} (ha : Ra.le (thR l)) (hb : Rb.le (thR r)) : (tupR [Ra, Rb]).le (thR (.pair l r)) := fun v H h => by
  obtain ⟨a, vs, rfl, h, hs⟩ := h
  obtain ⟨vl, vr, rfl, h1, h2⟩ := hs.two
  exact ⟨a, vl, vr, rfl, h, ha _ _ h1, hb _ _ h2⟩
theorem le_th3 {Ra Rb Rc : Rel} {b l r : Th} (hb : Ra.le (thR b)) (ha : Rb.le (thR l)) (hc : Rc.le (thR r)) : (tupR [Ra, Rb, Rc]).le (thR (.tri b l r)) := fun v H h => by
  obtain ⟨a, vs, rfl, h, hs⟩ := h
  obtain ⟨vb, vl, vr, rfl, h1, h2, h3⟩ := hs.three
  exact ⟨a, vb, vl, vr, rfl, h, hb _ _ h1, ha _ _ h2, hc _ _ h3⟩
theorem le_thn {Rs : List Rel} (h2 : Rs.length ≠ 2) (h3 : Rs.length ≠ 3) : (tupR Rs).le (thR (.tupn Rs.length)) := fun v H h => by
  obtain ⟨a, vs, rfl, h, hs⟩ := h
  exact ⟨a, vs, rfl, h, hs.length, h2, h3⟩
namespace Th
def isTup : Th → Bool
  | pair _ _ => true
  | tri _ _ _ => true
  | tupn _ => true
  | _ => false
def isInt : Th → Bool
  | int _ => true
  | bl _ => true
  | _ => false
def isBl : Th → Bool
  | bl _ => true
  | _ => false
def size : Th → Nat
  | pair _ _ => 2
  | tri _ _ _ => 3
  | tupn n => n
  | _ => 0
end Th
section
variable {X : Cx} {t l r b : Th} {i : Int}
/-- whatever type it has -/
theorem cb_isiV {R : Rel} {T : String} {u : Bool} (hm : X.mg "isinstance" = none) (ht : ∀ v H, R.p v H → ∃ t, TyX X.K H v (.type t) ∧ kitB t T = some u) : CallB X "isinstance" [R, tyR T] (blR u) :=
  ⟨hm, _, _, call_isi, by decide +kernel, .inl ⟨_, rfl⟩, fun vs H Q h q => by
    obtain ⟨v, w, rfl, h1, h2⟩ := h.two
    cases h2
    obtain ⟨t, h3, h4⟩ := ht _ _ h1
    exact ⟨v, .ty T, .type t, .type T, u, rfl, .ty T, h3, kit_ty h4, q _ _ (Same.refl H) rfl⟩⟩
theorem kb_int_tuple : kitB "int" "tuple" = some false := by decide +kernel
theorem kb_int_int : kitB "int" "int" = some true := by decide +kernel
theorem kb_int_bool : kitB "int" "bool" = some false := by decide +kernel
theorem kb_bool_tuple : kitB "bool" "tuple" = some false := by decide +kernel
theorem kb_bool_int : kitB "bool" "int" = some true := by decide +kernel
theorem kb_bool_bool : kitB "bool" "bool" = some true := by decide +kernel
theorem kb_NoneType_tuple : kitB "NoneType" "tuple" = some false := by decide +kernel
theorem kb_NoneType_int : kitB "NoneType" "int" = some false := by decide +kernel
theorem kb_NoneType_bool : kitB "NoneType" "bool" = some false := by decide +kernel
theorem kb_str_tuple : kitB "str" "tuple" = some false := by decide +kernel
theorem kb_str_int : kitB "str" "int" = some false := by decide +kernel
theorem kb_str_bool : kitB "str" "bool" = some false := by decide +kernel
theorem kb_list_tuple : kitB "list" "tuple" = some false := by decide +kernel
theorem kb_list_int : kitB "list" "int" = some false := by decide +kernel
theorem kb_list_bool : kitB "list" "bool" = some false := by decide +kernel
theorem kb_dict_tuple : kitB "dict" "tuple" = some false := by decide +kernel
theorem kb_dict_int : kitB "dict" "int" = some false := by decide +kernel
theorem kb_dict_bool : kitB "dict" "bool" = some false := by decide +kernel
theorem kb_tuple_tuple : kitB "tuple" "tuple" = some true := by decide +kernel
theorem kb_tuple_int : kitB "tuple" "int" = some false := by decide +kernel
theorem kb_tuple_bool : kitB "tuple" "bool" = some false := by decide +kernel
theorem th_ty (K : PySem.W.Frag) : ∀ (t : Th) (v : V) (H : Hp), ThP t v H → ∃ n : String, TyX K H v (.type n) ∧ kitB n "tuple" = some t.isTup ∧ kitB n "int" = some t.isInt ∧ kitB n "bool" = some t.isBl
  | .int _, v, H, h => ⟨"int", ty_int v H h, kb_int_tuple, kb_int_int, kb_int_bool⟩
  | .bl _, v, H, h => ⟨"bool", ty_bl v H h, kb_bool_tuple, kb_bool_int, kb_bool_bool⟩
  | .oth, v, H, h => by
    rcases h with rfl | ⟨x, rfl⟩ | ⟨a, xs, rfl, h⟩ | ⟨a, kvs, rfl, h⟩
    · exact ⟨"NoneType", .base .non, kb_NoneType_tuple, kb_NoneType_int, kb_NoneType_bool⟩
    · exact ⟨"str", .base (.str _), kb_str_tuple, kb_str_int, kb_str_bool⟩
    · exact ⟨"list", .base (.lst h), kb_list_tuple, kb_list_int, kb_list_bool⟩
    · exact ⟨"dict", .base (.dK h), kb_dict_tuple, kb_dict_int, kb_dict_bool⟩
  | .pair l r, v, H, h => by
    obtain ⟨a, vl, vr, rfl, h, _⟩ := h
    exact ⟨"tuple", .base (.tup h), kb_tuple_tuple, kb_tuple_int, kb_tuple_bool⟩
  | .tri b l r, v, H, h => by
    obtain ⟨a, vb, vl, vr, rfl, h, _⟩ := h
    exact ⟨"tuple", .base (.tup h), kb_tuple_tuple, kb_tuple_int, kb_tuple_bool⟩
  | .tupn n, v, H, h => by
    obtain ⟨a, vs, rfl, h, _⟩ := h
    exact ⟨"tuple", .base (.tup h), kb_tuple_tuple, kb_tuple_int, kb_tuple_bool⟩
theorem isi_th_tup (hm : X.mg "isinstance" = none) : CallB X "isinstance" [thR t, tyR "tuple"] (blR t.isTup) := cb_isiV hm fun v H h => by
  obtain ⟨n, a, b, c, d⟩ := th_ty X.K t v H h
  exact ⟨n, a, b⟩
theorem isi_th_int (hm : X.mg "isinstance" = none) : CallB X "isinstance" [thR t, tyR "int"] (blR t.isInt) := cb_isiV hm fun v H h => by
  obtain ⟨n, a, b, c, d⟩ := th_ty X.K t v H h
  exact ⟨n, a, c⟩
theorem isi_th_bl (hm : X.mg "isinstance" = none) : CallB X "isinstance" [thR t, tyR "bool"] (blR t.isBl) := cb_isiV hm fun v H h => by
  obtain ⟨n, a, b, c, d⟩ := th_ty X.K t v H h
  exact ⟨n, a, d⟩
theorem isi_bl_bl {u : Bool} (hm : X.mg "isinstance" = none) : CallB X "isinstance" [blR u, tyR "bool"] (blR true) := cb_isi hm ty_bl (by decide +kernel)
/-- len -/
theorem len_th (hm : X.mg "len" = none) (h : t.isTup = true) : CallB X "len" [thR t] (intR t.size) :=
  ⟨hm, _, _, call_len_seq, PySem.boot_len, .inl ⟨_, rfl⟩, fun vs H Q hv q => by
    obtain ⟨v, rfl, h1⟩ := hv.one
    cases t with
    | int i => cases h
    | bl i => cases h
    | oth => cases h
    | pair l r =>
      obtain ⟨a, vl, vr, rfl, h, _⟩ := h1
      exact ⟨a, _, rfl, .inr (SqT.of h), q _ _ (Same.refl H) rfl⟩
    | tri b l r =>
      obtain ⟨a, vb, vl, vr, rfl, h, _⟩ := h1
      exact ⟨a, _, rfl, .inr (SqT.of h), q _ _ (Same.refl H) rfl⟩
    | tupn n =>
      obtain ⟨a, vs, rfl, h, e, _⟩ := h1
      exact ⟨a, _, rfl, .inr (SqT.of h), q _ _ (Same.refl H) (by rw [e]; rfl)⟩⟩
theorem pair_tup : (thR (.pair l r)).le (tupR [thR l, thR r]) := fun v H h => by
  obtain ⟨a, vl, vr, rfl, h, hl, hr⟩ := h
  exact ⟨a, [vl, vr], rfl, h, hl, hr, trivial⟩
theorem tri_tup : (thR (.tri b l r)).le (tupR [thR b, thR l, thR r]) := fun v H h => by
  obtain ⟨a, vb, vl, vr, rfl, h, hb, hl, hr⟩ := h
  exact ⟨a, [vb, vl, vr], rfl, h, hb, hl, hr, trivial⟩
theorem ix_pairL : IxOk X (thR (.pair l r)) (intR 0) (thR l) := (ix_tupR (Rs := [thR l, thR r]) (n := 0) rfl rfl).le pair_tup
theorem ix_pairR : IxOk X (thR (.pair l r)) (intR 1) (thR r) := (ix_tupR (Rs := [thR l, thR r]) (n := 1) rfl rfl).le pair_tup
theorem ix_triA : IxOk X (thR (.tri b l r)) (intR 0) (thR b) := (ix_tupR (Rs := [thR b, thR l, thR r]) (n := 0) rfl rfl).le tri_tup
theorem ix_triL : IxOk X (thR (.tri b l r)) (intR 1) (thR l) := (ix_tupR (Rs := [thR b, thR l, thR r]) (n := 1) rfl rfl).le tri_tup
theorem ix_triR : IxOk X (thR (.tri b l r)) (intR 2) (thR r) := (ix_tupR (Rs := [thR b, thR l, thR r]) (n := 2) rfl rfl).le tri_tup
theorem o_leT {j : Int} : Op2 X (compareOp .LtE) (intR j) (thR (.int i)) (blR (decide (j ≤ i))) := o_le.le (.refl _) fun _ _ h => h
theorem o_Tle {j : Int} : Op2 X (compareOp .LtE) (thR (.int i)) (intR j) (blR (decide (i ≤ j))) := o_le.le (fun _ _ h => h) (.refl _)
theorem o_Tge {j : Int} : Op2 X (compareOp .GtE) (thR (.int i)) (intR j) (blR (decide (j ≤ i))) := o_ge.le (fun _ _ h => h) (.refl _)
/-- an int among the things -/
theorem th_int : (thR (.int i)).le (intR i) := fun _ _ h => h
end
end Fk

namespace Fk
open PySem L2
/-! ### lists that are read, lists of ints -/
def sqR (K : PySem.W.Frag) (Rs : List Rel) : Rel := ⟨fun v H => ∃ a vs, v = .ref a ∧ SqL K H a vs ∧ Args Rs vs H, fun s ⟨a, vs, e, h, r⟩ => ⟨a, vs, e, s.seq h, r.up s⟩⟩
theorem lst_sq {K : PySem.W.Frag} {Rs : List Rel} : (lstR Rs).le (sqR K Rs) := fun _ _ ⟨a, vs, e, h, r⟩ => ⟨a, vs, e, SqL.of h, r⟩
abbrev intsR (ns : List Int) : Rel := lstR (ns.map intR)
theorem args_ints : ∀ {ns : List Int} {vs : List V} {H : Hp}, Args (ns.map intR) vs H → vs = ns.map V.int
  | [], [], _, _ => rfl
  | n :: ns, v :: vs, H, h => by
    have h1 : v = V.int n := h.1
    rw [h1, args_ints (ns := ns) (vs := vs) h.2]
    rfl
  | [], _ :: _, _, h => h.elim
  | _ :: _, [], _, h => h.elim
theorem ints_args : ∀ {ns : List Int} {H : Hp}, Args (ns.map intR) (ns.map V.int) H
  | [], _ => trivial
  | n :: ns, H => ⟨rfl, ints_args (ns := ns)⟩
theorem Args.append : ∀ {Rs Ss : List Rel} {vs ws : List V} {H : Hp}, Args Rs vs H → Args Ss ws H → Args (Rs ++ Ss) (vs ++ ws) H
  | [], _, [], _, _, _, b => b
  | _ :: _, _, _ :: _, _, _, a, b => ⟨a.1, Args.append a.2 b⟩
  | [], _, _ :: _, _, _, a, _ => a.elim
  | _ :: _, _, [], _, _, a, _ => a.elim
theorem Args.take : ∀ {Rs : List Rel} {vs : List V} {H : Hp} (n : Nat), Args Rs vs H → Args (Rs.take n) (vs.take n) H
  | [], [], _, _, _ => by simp [Args]
  | _ :: _, _ :: _, _, 0, _ => trivial
  | _ :: _, _ :: _, _, n + 1, a => ⟨a.1, Args.take n a.2⟩
  | [], _ :: _, _, _, a => a.elim
  | _ :: _, [], _, _, a => a.elim
theorem Args.drop : ∀ {Rs : List Rel} {vs : List V} {H : Hp} (n : Nat), Args Rs vs H → Args (Rs.drop n) (vs.drop n) H
  | [], [], _, _, _ => by simp [Args]
  | _ :: _, _ :: _, _, 0, a => a
  | _ :: _, _ :: _, _, n + 1, a => Args.drop n a.2
  | [], _ :: _, _, _, a => a.elim
  | _ :: _, [], _, _, a => a.elim
open PySem.AutoSeq1 in
open PySem.MeetsSeq PySem.MeetsSeq2 PySem.MeetsSeq3 in
theorem list_add_any (l : Addr) (items : Array Value) (n : Nat) (b : Addr) (items2 : Array Value) (n2 : Nat) (sl sl2 : Array (Option Value)) (hc0 : items.size + items2.size ≤ sizeLine) :
    Meets (Builtin.«list.__add__» ⟨[.ref l, .ref b], []⟩) (fun _ R s => s.heap.get? l = some { cls := .type "list", dict := none, data := .seq items n, slots := sl } ∧ s.heap.get? b = some { cls := .type "list", dict := none, data := .seq items2 n2, slots := sl2 } ∧
      R (.ok (.ret (Value.ref s.heap.objs.size))) { s with heap := s.heap.push { cls := Value.type "list", data := .seq (items ++ items2) } }) :=
  .of_wp fun prog w A R s h => by
    obtain ⟨hp, g, d, tk, os⟩ := s; obtain ⟨hl, hb, h⟩ := h; have f1 := idx_int; have f2 := sub_tuple_tuple; have f3 := sub_list_list; have f4 := sub_tuple_list; have f5 := sub_list_tuple
    wp_walk using wpAny_loadPart' hl, wpAny_loadPart' hb
    exact ⟨_, rfl, h⟩
/-- lists glued: any two that are read -/
def rCatS (K : PySem.W.Frag) : R2 := fun x y H Q => ∃ l b xs zs, x = .ref l ∧ y = .ref b ∧ SqL K H l xs ∧ SqL K H b zs ∧ xs.length + zs.length ≤ sizeLine ∧ ∀ p, H p = none → Q (.ref p) (upd H p (.lst (xs ++ zs)))
section
variable {X : Cx} {Rs Ss : List Rel} {R : Rel} {i j : Int}
theorem op_catS : OpR X (binaryOp .Add) (rCatS X.K) := by
  intro pins s σ H x y v u Q I rx ry h
  obtain ⟨l, b, xs, zs, rfl, rfl, hH, hB, hz, q⟩ := h
  cases rx
  cases ry
  obtain ⟨its, r, ⟨⟨cls, dd, data, sl⟩, n, ho, hc, hdn, hd⟩, z1⟩ := I.list hH
  obtain ⟨its2, r2, ⟨⟨cls2, dd2, data2, sl2⟩, n2, ho2, hc2, hdn2, hd2⟩, z2⟩ := I.list hB
  simp only at hc hdn hd hc2 hdn2 hd2
  subst hc hdn hd hc2 hdn2 hd2
  have l1 := r.length
  have l2 := r2.length
  refine PySem.concat_meets ⟨_, ho, rfl⟩ ⟨_, ho2, rfl⟩ PySem.noFill_list_add PySem.seq_list_add PySem.F.slot_list_add PySem.F.entry_list_add (PySem.F.args_list_add_2 _ _) (list_add_any l its.toArray n b its2.toArray n2 sl sl2 (by rw [List.size_toArray, List.size_toArray]; omega)) ⟨ho, ho2, ?_⟩
  have ea : its.toArray ++ its2.toArray = (its ++ its2).toArray := by simp
  rw [ea]
  exact ⟨.ref _, _, I.lnew (t' := s.toks) (r.append r2) (by rw [List.length_append]; omega), rfl, q _ I.fresh⟩
theorem o_cat (h : Rs.length + Ss.length ≤ sizeLine) : Op2 X (binaryOp .Add) (sqR X.K Rs) (sqR X.K Ss) (lstR (Rs ++ Ss)) :=
  ⟨_, op_catS, fun x y H Q hx hy q => by
    obtain ⟨a, vs, rfl, ha, r1⟩ := hx
    obtain ⟨b, ws, rfl, hb, r2⟩ := hy
    refine ⟨a, b, vs, ws, rfl, rfl, ha, hb, by rw [r1.length, r2.length]; exact h, fun p hp => q _ _ (same_new hp) ⟨p, _, rfl, upd_same, (r1.append r2).up (same_new hp)⟩⟩⟩
theorem o_catL (h : Rs.length + Ss.length ≤ sizeLine) : Op2 X (binaryOp .Add) (lstR Rs) (lstR Ss) (lstR (Rs ++ Ss)) := (o_cat h).le lst_sq lst_sq
theorem o_catSL (h : Rs.length + Ss.length ≤ sizeLine) : Op2 X (binaryOp .Add) (sqR X.K Rs) (lstR Ss) (lstR (Rs ++ Ss)) := (o_cat h).le (.refl _) lst_sq
theorem o_cat5 {ns : List Int} {k : Int} (h : ns.length ≤ 63) : Op2 X (binaryOp .Add) (sqR X.K (ns.map intR)) (lstR [intR k]) (sqR X.K ((ns ++ [k]).map intR)) := by
  have q := o_catSL (X := X) (Rs := ns.map intR) (Ss := [intR k]) (by rw [List.length_map]; exact small (by simp; omega))
  rw [List.map_append]
  obtain ⟨r, a, b⟩ := q
  exact ⟨r, a, fun x y H Q hx hy q => b x y H Q hx hy fun v H' s r => q v H' s (lst_sq _ _ r)⟩
theorem len_sq (hm : X.mg "len" = none) : CallB X "len" [sqR X.K Rs] (intR Rs.length) :=
  ⟨hm, _, _, call_len_seq, PySem.boot_len, .inl ⟨_, rfl⟩, fun vs H Q hv q => by
    obtain ⟨v, rfl, a, ws, rfl, ha, r⟩ := hv.one
    exact ⟨a, ws, rfl, .inl ha, q _ _ (Same.refl H) (by rw [r.length]; rfl)⟩⟩
theorem len_tupR (hm : X.mg "len" = none) : CallB X "len" [tupR Rs] (intR Rs.length) :=
  ⟨hm, _, _, call_len_seq, PySem.boot_len, .inl ⟨_, rfl⟩, fun vs H Q hv q => by
    obtain ⟨v, rfl, a, ws, rfl, ha, r⟩ := hv.one
    exact ⟨a, ws, rfl, .inr (SqT.of ha), q _ _ (Same.refl H) (by rw [r.length]; rfl)⟩⟩
theorem CallB.le {x : Str} {Rs Rs' : List Rel} {R : Rel} (h : CallB X x Rs R) (l : ArgsLe Rs' Rs) : CallB X x Rs' R := by
  obtain ⟨hm, f, r, a, b, c, d⟩ := h
  exact ⟨hm, f, r, a, b, c, fun vs H Q hv q => d vs H Q (l.args hv) q⟩
theorem len_lst (hm : X.mg "len" = none) : CallB X "len" [lstR Rs] (intR Rs.length) := (len_sq hm).le (.cons lst_sq .nil)
theorem len_ints {ns : List Int} (hm : X.mg "len" = none) : CallB X "len" [intsR ns] (intR ns.length) := by
  have h := len_lst (X := X) (Rs := ns.map intR) hm
  rw [List.length_map] at h
  exact h
theorem ix_sq {n : Nat} (hi : i = (n : Int)) (h : Rs[n]? = some R) : IxOk X (sqR X.K Rs) (intR i) R :=
  ⟨_, ix_list, fun x y H Q hx hy q => by
    obtain ⟨a, vs, rfl, ha, hs⟩ := hx
    obtain ⟨v, e, r⟩ := hs.get h
    exact ⟨a, vs, i, v, rfl, hy, ha, by rw [hi]; exact atI_nat e, q _ _ (Same.refl H) r⟩⟩
theorem ix_ints {ns : List Int} {n : Nat} {k : Int} (hi : i = (n : Int)) (h : ns[n]? = some k) : IxOk X (intsR ns) (intR i) (intR k) := ix_lstR hi (by rw [List.getElem?_map, h]; rfl)
/-- max, min of a list of ints -/
def lmax : List Int → Int
  | [] => 0
  | [n] => n
  | n :: ns => max n (lmax ns)
def lmin : List Int → Int
  | [] => 0
  | [n] => n
  | n :: ns => min n (lmin ns)
theorem lmax_mem : ∀ {ns : List Int}, ns ≠ [] → lmax ns ∈ ns
  | [], h => absurd rfl h
  | [n], _ => by simp [lmax]
  | n :: m :: ns, _ => by
    have ih := lmax_mem (ns := m :: ns) (by simp)
    show max n (lmax (m :: ns)) ∈ _
    rcases Int.le_total n (lmax (m :: ns)) with h | h
    · rw [Int.max_eq_right h]; exact List.mem_cons_of_mem _ ih
    · rw [Int.max_eq_left h]; exact List.mem_cons_self
theorem lmax_ge : ∀ {ns : List Int} {y : Int}, y ∈ ns → y ≤ lmax ns
  | [], _, h => by simp at h
  | [n], y, h => by simp at h; subst h; exact Int.le_refl _
  | n :: m :: ns, y, h => by
    have ih := lmax_ge (ns := m :: ns) (y := y)
    show y ≤ max n (lmax (m :: ns))
    rcases List.mem_cons.mp h with rfl | h
    · exact Int.le_max_left _ _
    · exact Int.le_trans (ih h) (Int.le_max_right _ _)
theorem lmin_mem : ∀ {ns : List Int}, ns ≠ [] → lmin ns ∈ ns
  | [], h => absurd rfl h
  | [n], _ => by simp [lmin]
  | n :: m :: ns, _ => by
    have ih := lmin_mem (ns := m :: ns) (by simp)
    show min n (lmin (m :: ns)) ∈ _
    rcases Int.le_total n (lmin (m :: ns)) with h | h
    · rw [Int.min_eq_left h]; exact List.mem_cons_self
    · rw [Int.min_eq_right h]; exact List.mem_cons_of_mem _ ih
theorem lmin_le : ∀ {ns : List Int} {y : Int}, y ∈ ns → lmin ns ≤ y
  | [], _, h => by simp at h
  | [n], y, h => by simp at h; subst h; exact Int.le_refl _
  | n :: m :: ns, y, h => by
    have ih := lmin_le (ns := m :: ns) (y := y)
    show min n (lmin (m :: ns)) ≤ y
    rcases List.mem_cons.mp h with rfl | h
    · exact Int.min_le_left _ _
    · exact Int.le_trans (Int.min_le_right _ _) (ih h)
theorem cb_max {ns : List Int} (hm : X.mg "max" = none) (hc : X.calm = true) (h : ns ≠ []) : CallB X "max" [intsR ns] (intR (lmax ns)) :=
  ⟨hm, _, _, cr_max hc, by decide +kernel, .inl ⟨_, rfl⟩, fun vs H Q hv q => by
    obtain ⟨v, rfl, a, ws, rfl, ha, r⟩ := hv.one
    rw [args_ints r] at ha
    refine ⟨a, ns, rfl, SqL.of ha, List.length_pos_iff.mpr h, fun m h1 h2 => q _ _ (Same.refl H) ?_⟩
    show V.int m = V.int (lmax ns)
    exact congrArg V.int (Int.le_antisymm (lmax_ge h1) (h2 _ (lmax_mem h)))⟩
theorem cb_min {ns : List Int} (hm : X.mg "min" = none) (hc : X.calm = true) (h : ns ≠ []) : CallB X "min" [intsR ns] (intR (lmin ns)) :=
  ⟨hm, _, _, cr_min hc, by decide +kernel, .inl ⟨_, rfl⟩, fun vs H Q hv q => by
    obtain ⟨v, rfl, a, ws, rfl, ha, r⟩ := hv.one
    rw [args_ints r] at ha
    refine ⟨a, ns, rfl, SqL.of ha, List.length_pos_iff.mpr h, fun m h1 h2 => q _ _ (Same.refl H) ?_⟩
    show V.int m = V.int (lmin ns)
    exact congrArg V.int (Int.le_antisymm (h2 _ (lmin_mem h)) (lmin_le h1))⟩
theorem cb_max2 (hm : X.mg "max" = none) (hc : X.calm = true) : CallB X "max" [intR i, intR j] (intR (max i j)) :=
  ⟨hm, _, _, call_max2 hc, by decide +kernel, .inl ⟨_, rfl⟩, fun vs H Q hv q => by
    obtain ⟨v, w, rfl, h1, h2⟩ := hv.two
    refine ⟨i, j, by rw [show v = V.int i from h1, show w = V.int j from h2], q _ _ (Same.refl H) ?_⟩
    show V.int _ = V.int _
    split <;> exact congrArg V.int (by omega)⟩
theorem cb_min2 (hm : X.mg "min" = none) (hc : X.calm = true) : CallB X "min" [intR i, intR j] (intR (min i j)) :=
  ⟨hm, _, _, call_min2 hc, by decide +kernel, .inl ⟨_, rfl⟩, fun vs H Q hv q => by
    obtain ⟨v, w, rfl, h1, h2⟩ := hv.two
    refine ⟨i, j, by rw [show v = V.int i from h1, show w = V.int j from h2], q _ _ (Same.refl H) ?_⟩
    show V.int _ = V.int _
    split <;> exact congrArg V.int (by omega)⟩
/-! ### slices -/
variable {H0 : Hp} {G : Ctx} {a b c e : Expr} {es : List Expr} {pos p2 : Pos}
theorem cut_sound {σ : St} {H : Hp} {Q : VK} {tl th : TO} {lo hi : Option Int} (hl : ∀ H1 (Q' : Option Int → Hp → Prop), Same H H1 → (∀ H2, Same H1 H2 → Q' lo H2) → tl σ H1 Q') (hh : ∀ H1 (Q' : Option Int → Hp → Prop), Same H H1 → (∀ H2, Same H1 H2 → Q' hi H2) → th σ H1 Q')
    (hR : ∀ vs : List V, vs.length = Rs.length → ∀ H', Args Rs vs H' → Args Ss (cutV vs lo hi) H') (q : tEv X H0 G (lstR Ss) σ H Q) : tSl (rSlL X.K) (tEv X H0 G (sqR X.K Rs)) tl th σ H Q := by
  obtain ⟨g, S, q⟩ := q
  refine ⟨g, S, fun v H1 s1 r1 => hl H1 _ s1 fun H2 s2 => hh H2 _ (s1.trans s2) fun H3 s3 => ?_⟩
  obtain ⟨a, vs, rfl, ha, r⟩ := r1
  refine ⟨a, vs, rfl, (s2.trans s3).seq ha, fun p hp => q _ _ (s1.trans (s2.trans (s3.trans (same_new hp)))) ⟨p, _, rfl, upd_same, ?_⟩⟩
  exact hR vs r.length _ (r.up (s2.trans (s3.trans (same_new hp))))
theorem no_sound {σ : St} {H1 : Hp} {Q' : Option Int → Hp → Prop} (q : ∀ H2, Same H1 H2 → Q' none H2) : tNoPart σ H1 Q' := q _ (Same.refl _)
theorem part_sound {σ : St} {H H1 : Hp} {Q' : Option Int → Hp → Prop} (g : Same H0 H) (S : Slots X G σ H) (s : Same H H1) (q : ∀ H2, Same H1 H2 → Q' (some i) H2) : tPart (tEv X H0 G (intR i)) σ H1 Q' :=
  ⟨g.trans s, S.up s, fun v H2 s2 r => ⟨i, r, q H2 s2⟩⟩
theorem sIx_nat' {n d : Nat} (h : 0 ≤ i) : HT.sIx n d (some i) = min i.toNat n := by
  have e : i = ((i.toNat : Nat) : Int) := by omega
  rw [e, HT.sIx_nat]
  rfl
theorem ev_cutTo (ha : Ev X H0 G a (sqR X.K Rs)) (hb : Ev X H0 G b (intR j)) (h : 0 ≤ j) : Ev X H0 G (.Subscript a (.Slice none (some b) none p2) pos) (lstR (Rs.take j.toNat)) := by
  refine PE_imp (pe_slice sl_list ha po_none (po_some hb)) fun σ H Q q => ?_
  refine cut_sound (lo := none) (hi := some j) (fun H1 Q' s q' => no_sound q') (fun H1 Q' s q' => part_sound q.1 q.2.1 s q') (fun vs hv H' r => ?_) q
  unfold cutV
  rw [HT.sIx_none, sIx_nat' h, List.drop_zero, Nat.sub_zero, hv]
  have e : vs.take (min j.toNat Rs.length) = vs.take j.toNat := by
    rw [← hv]
    by_cases hj : j.toNat ≤ vs.length
    · rw [Nat.min_eq_left hj]
    · rw [Nat.min_eq_right (by omega), List.take_length, List.take_of_length_le (by omega)]
  rw [e]
  exact r.take _
theorem ev_cutFrom (ha : Ev X H0 G a (sqR X.K Rs)) (hb : Ev X H0 G b (intR j)) (h : 0 ≤ j) : Ev X H0 G (.Subscript a (.Slice (some b) none none p2) pos) (lstR (Rs.drop j.toNat)) := by
  refine PE_imp (pe_slice sl_list ha (po_some hb) po_none) fun σ H Q q => ?_
  refine cut_sound (lo := some j) (hi := none) (fun H1 Q' s q' => part_sound q.1 q.2.1 s q') (fun H1 Q' s q' => no_sound q') (fun vs hv H' r => ?_) q
  unfold cutV
  rw [HT.sIx_none, sIx_nat' h]
  have e : (vs.drop (min j.toNat vs.length)).take (vs.length - min j.toNat vs.length) = vs.drop j.toNat := by
    rw [List.take_of_length_le (by rw [List.length_drop]; exact Nat.le_refl _)]
    by_cases hj : j.toNat ≤ vs.length
    · rw [Nat.min_eq_left hj]
    · rw [Nat.min_eq_right (by omega), List.drop_length, List.drop_eq_nil_of_le (by omega)]
  rw [e]
  exact r.drop _
theorem ev_cutToI {ns : List Int} (ha : Ev X H0 G a (intsR ns)) (hb : Ev X H0 G b (intR j)) (h : 0 ≤ j) : Ev X H0 G (.Subscript a (.Slice none (some b) none p2) pos) (intsR (ns.take j.toNat)) := by
  have q := ev_cutTo (p2 := p2) (pos := pos) (ha.le lst_sq) hb h
  rw [← List.map_take] at q
  exact q
theorem ev_cutFromI {ns : List Int} (ha : Ev X H0 G a (intsR ns)) (hb : Ev X H0 G b (intR j)) (h : 0 ≤ j) : Ev X H0 G (.Subscript a (.Slice (some b) none none p2) pos) (intsR (ns.drop j.toNat)) := by
  have q := ev_cutFrom (p2 := p2) (pos := pos) (ha.le lst_sq) hb h
  rw [← List.map_drop] at q
  exact q
theorem ev_count {ns : List Int} {k : Int} {apos : Pos} (ha : Ev X H0 G a (intsR ns)) (hb : Ev X H0 G b (intR k)) (hbase : attributeBase a "count" X.env (eval a X.env) = eval a X.env)
    (hfew : ((backTo pos (starEach (b :: []) X.env)).all (fun x => !x.1) && (backToKw pos (keywordEach [] X.env)).all (fun x => x.1.isSome)
      && decide ((b :: []).length + ([] : List Keyword).length + (if ([] : List Keyword).isEmpty then 0 else 1) < 30)) = true)
    (hline : (apos.endLine == pos.line) = true) (hs : starEach (b :: []) X.env = (false, eval b X.env) :: starEach [] X.env) (hplain : (backTo pos (starEach [] X.env)).any (·.1) = false) :
    Ev X H0 G (.Call (.Attribute a "count" apos) [b] [] pos) (intR (ns.count k : Nat)) := by
  refine PE_imp (pe_bm PySem.F.plainAttrs_list PySem.F.slot_list_count PySem.F.type_list_count mt_lcount ha (av_cons hb av_nil hs) hbase hfew hline hs hplain) fun σ H Q q => ?_
  obtain ⟨g, S, q⟩ := q
  refine ⟨g, S, fun v H1 s1 r1 => ?_⟩
  obtain ⟨p, vs, rfl, hp, r⟩ := r1
  rw [args_ints r] at hp
  refine ⟨Or.inl ⟨rfl, _, Or.inl (Or.inl hp)⟩, g.trans s1, S.up s1, fun ws H2 s2 r2 => ?_⟩
  obtain ⟨w, rfl, rw'⟩ := r2.one
  exact ⟨p, ns, k, rfl, by rw [show w = V.int k from rw'], SqL.of (s2 _ _ hp), q _ _ (s1.trans s2) rfl⟩
theorem le_lstR {Rs Ss : List Rel} (h : ArgsLe Rs Ss) : (lstR Rs).le (lstR Ss) := fun v H ⟨a, vs, e, ha, r⟩ => ⟨a, vs, e, ha, h.args r⟩
theorem le_ints {ns ms : List Int} (h : ns = ms) : (intsR ns).le (intsR ms) := by subst h; exact Rel.le.refl _
theorem o_catI {ns ms : List Int} (h : ns.length + ms.length ≤ sizeLine) : Op2 X (binaryOp .Add) (intsR ns) (intsR ms) (intsR (ns ++ ms)) := by
  have q := o_catL (X := X) (Rs := ns.map intR) (Ss := ms.map intR) (by rw [List.length_map, List.length_map]; exact h)
  rw [← List.map_append] at q
  exact q
theorem ix_ints0 {n : Int} {ns : List Int} : IxOk X (intsR (n :: ns)) (intR 0) (intR n) := ix_ints (n := 0) rfl rfl
/-- x in (0, 1) -/
def rInT (K : PySem.W.Frag) : R2 := fun x y H Q => ∃ d ds, Dp K H x d ∧ Dp K H y (.tuple ds) ∧ SeqAt.shaped d = true ∧ SeqAt.shaped (.tuple ds) = true ∧ Q (.bl (ds.any fun z => PyData.eqv z d)) H
theorem room_tup {A : Around} {d : PyData} {ds : List PyData} (sd : SeqAt.shaped d = true) (hu : A.units + 65 < cLine) : A.units + 1 + min (PyData.depthAll ds) d.depth < cLine := by
  have h : d.depth ≤ 64 := by
    unfold SeqAt.shaped at sd
    simp only [Bool.and_eq_true, decide_eq_true_eq] at sd
    exact sd.2
  omega
theorem shaped_tup {ds : List PyData} (s : SeqAt.shaped (.tuple ds) = true) : PyData.canLayAll0 ds = true := by
  unfold SeqAt.shaped at s
  simp only [Bool.and_eq_true, PyData.canLay0] at s
  exact s.1
theorem op_inT (hu : X.A.units + 65 < cLine) : OpR X (compareOp .In) (rInT X.K) := by
  intro pins s σ H x y v u Q I rx ry h
  obtain ⟨d, ds, hd, he, sd, se, q⟩ := h
  obtain ⟨as, r1⟩ := Dp.reads I d x v hd rx
  obtain ⟨bs, r2⟩ := Dp.reads I (.tuple ds) y u he ry
  exact SeqAt.in_tuple_reads r2 r1 (shaped_tup se) (SeqAt.canLay_of_shaped sd) (room_tup sd hu) ⟨.bl _, H, I, rfl, q⟩
theorem in_own01 {o : Own} (hu : X.A.units + 65 < cLine) (h : o.depth ≤ 64) : Op2 X (compareOp .In) (ownR o) (tupR [intR 0, intR 1]) (blR (!o.isNode)) :=
  ⟨_, op_inT hu, fun x y H Q hx hy q => by
    obtain ⟨a, vs, rfl, ha, r⟩ := hy
    obtain ⟨v, w, rfl, h1, h2⟩ := r.two
    cases h1
    cases h2
    refine ⟨o.dat, [.int 0, .int 1], own_dat o _ _ hx, .tup (SqT.of ha) (.cons (.int 0) (.cons (.int 1) .nil)), Own.shaped h, by decide +kernel, q _ _ (Same.refl H) ?_⟩
    show V.bl _ = V.bl _
    refine congrArg V.bl ?_
    have e0 : PyData.eqv (.int 0) o.dat = decide (Own.leaf false = o) := Own.eqv (.leaf false) o
    have e1 : PyData.eqv (.int 1) o.dat = decide (Own.leaf true = o) := Own.eqv (.leaf true) o
    rw [List.any_cons, List.any_cons, List.any_nil, e0, e1]
    cases o with
    | leaf b => cases b <;> rfl
    | node l r => rfl⟩
/-- a list item at a place that is told by its remainder -/
theorem ix_getD (hi : 0 ≤ i) (h : i.toNat < Rs.length) : IxOk X (lstR Rs) (intR i) (Rs.getD i.toNat anyR) :=
  ix_lstR (n := i.toNat) (by omega) (by rw [List.getD_eq_getElem?_getD, List.getElem?_eq_getElem h]; rfl)
def dctR : Rel := ⟨fun v H => ∃ a, v = .ref a ∧ H a = some (.dK []), fun s ⟨a, e, h⟩ => ⟨a, e, s _ _ h⟩⟩
theorem ev_dict0 : Ev X H0 G (.Dict [] [] pos) dctR := PE_imp pe_dnewK fun σ H Q q => fun d hd => q.2.2 _ _ (same_new hd) ⟨d, rfl, upd_same⟩
theorem le_thD : dctR.le (thR .oth) := fun _ _ ⟨a, e, h⟩ => .inr (.inr (.inr ⟨a, _, e, h⟩))
end
end Fk

namespace Fk
open PySem L2
/-! ### THE FRAME: what a pure expression does not see stays as it is -/
def era (H : Hp) (F : List Addr) : Hp := fun b => if b ∈ F then none else H b
def res (H' H : Hp) (F : List Addr) : Hp := fun b => if b ∈ F then H b else H' b
theorem era_in {H : Hp} {F : List Addr} {b : Addr} (h : b ∈ F) : era H F b = none := by unfold era; rw [if_pos h]
theorem era_out {H : Hp} {F : List Addr} {b : Addr} (h : b ∉ F) : era H F b = H b := by unfold era; rw [if_neg h]
theorem res_in {H' H : Hp} {F : List Addr} {b : Addr} (h : b ∈ F) : res H' H F b = H b := by unfold res; rw [if_pos h]
theorem res_out {H' H : Hp} {F : List Addr} {b : Addr} (h : b ∉ F) : res H' H F b = H' b := by unfold res; rw [if_neg h]
theorem era_some {H : Hp} {F : List Addr} {b : Addr} {o : HO} (h : era H F b = some o) : b ∉ F ∧ H b = some o := by
  by_cases hb : b ∈ F
  · rw [era_in hb] at h; cases h
  · rw [era_out hb] at h; exact ⟨hb, h⟩
theorem era_none {H : Hp} {F : List Addr} {b : Addr} (h : H b = none) : era H F b = none := by
  by_cases hb : b ∈ F
  · exact era_in hb
  · rw [era_out hb]; exact h
theorem era_same {H : Hp} {F : List Addr} : Same (era H F) H := fun b o h => (era_some h).2
theorem res_same {H' H : Hp} {F : List Addr} (hn : ∀ a ∈ F, H' a = none) : Same H' (res H' H F) := fun b o h => by
  by_cases hb : b ∈ F
  · rw [hn b hb] at h; cases h
  · rw [res_out hb]; exact h
theorem res_old {H' H : Hp} {F : List Addr} (s : Same (era H F) H') : Same H (res H' H F) := fun b o h => by
  by_cases hb : b ∈ F
  · rw [res_in hb]; exact h
  · rw [res_out hb]; exact s b o (by rw [era_out hb]; exact h)
/-- what may be set aside: lists, dicts; instances with their dicts -/
inductive Asd (H : Hp) (F : List Addr) : Addr → Prop
  | lst {a : Addr} {xs : List V} (h : H a = some (.lst xs)) : Asd H F a
  | dK {a : Addr} {kvs : List (Key × V)} (h : H a = some (.dK kvs)) : Asd H F a
  | ins {a C dx : Addr} {fs : List (Str × V)} (h : H a = some (.ins C dx fs)) (hd : dx ∈ F) : Asd H F a
  | own {a x C : Addr} {fs : List (Str × V)} (h : H a = some (.own x)) (hx : H x = some (.ins C a fs)) (hf : x ∈ F) : Asd H F a
section
variable {X : Cx} {pins : List (Addr × Obj)} {σ : St} {H H' : Hp} {s s' : Shared} {F : List Addr}
theorem inv_fsFree (I : Inv X pins σ H s) : ∀ b ∈ X.fs, H b = none := fun b hb => by
  obtain ⟨_, o, ho, _⟩ := I.ok.funs.mem hb
  exact I.base.free b o ho (I.ok.frf b hb) fun z => I.ok.exfs b z hb
theorem Asd.there (I : Inv X pins σ H s) {a : Addr} (h : Asd H F a) : (∃ o, s.heap.get? a = some o ∧ ∀ v, o.data ≠ .cell v) ∧ ∃ o, H a = some o ∧ (∀ xs, o ≠ .tup xs) ∧ (∀ ob u, o ≠ .frz ob u) ∧ ∀ ps, o ≠ .tbl ps := by
  cases h with
  | lst h =>
    obtain ⟨_, its, n, _, e⟩ := I.hok _ _ h
    exact ⟨⟨_, e, (fun v z => by cases z)⟩, _, h, (fun _ z => by cases z), (fun _ _ z => by cases z), (fun _ z => by cases z)⟩
  | dK h =>
    obtain ⟨_, _, vs, _, o, es, ep, e, _, d, _⟩ := I.hok _ _ h
    exact ⟨⟨_, e, fun v z => by rw [d] at z; cases z⟩, _, h, (fun _ z => by cases z), (fun _ _ z => by cases z), (fun _ z => by cases z)⟩
  | ins h _ =>
    obtain ⟨_, _, _, e, _⟩ := I.hok _ _ h
    exact ⟨⟨_, e, (fun v z => by cases z)⟩, _, h, (fun _ z => by cases z), (fun _ _ z => by cases z), (fun _ z => by cases z)⟩
  | own h hx _ =>
    obtain ⟨_, _, _, _, mA, ⟨o, es, ep, e, d, _⟩, _⟩ := I.hok _ _ hx
    exact ⟨⟨_, e, fun v z => by rw [d] at z; cases z⟩, _, h, (fun _ z => by cases z), (fun _ _ z => by cases z), (fun _ z => by cases z)⟩
/-- set aside -/
theorem inv_aside (I : Inv X pins σ H s) (hF : ∀ a ∈ F, Asd H F a) : ∃ P : List (Addr × Obj), (∀ a ∈ F, ∃ o, s.heap.get? a = some o ∧ (a, o) ∈ P) ∧ (∀ p ∈ P, p.1 ∈ F) ∧ Inv X (pins ++ P) σ (era H F) s := by
  have own_out : ∀ a b, a ∉ F → H b = some (.own a) → b ∉ F := fun a b ha hb hbF => by
    have q := hF b hbF
    cases q with
    | lst h => rw [hb] at h; cases h
    | dK h => rw [hb] at h; cases h
    | ins h _ => rw [hb] at h; cases h
    | own h hx hf => rw [hb] at h; cases h; exact ha hf
  refine ⟨F.filterMap fun a => (s.heap.get? a).map fun o => (a, o), fun a ha => ?_, fun p hp => ?_, ?_⟩
  · obtain ⟨⟨o, e, _⟩, _⟩ := (hF a ha).there I
    exact ⟨o, e, List.mem_filterMap.mpr ⟨a, ha, by rw [e]; rfl⟩⟩
  · obtain ⟨a, ha, e⟩ := List.mem_filterMap.mp hp
    cases q : s.heap.get? a with
    | none => rw [q] at e; cases e
    | some o => rw [q] at e; cases e; exact ha
  refine ⟨I.ok, I.os, I.bare, ⟨I.base.keep, I.base.slot, fun b o e n hx => ?_, I.base.there, fun b xs e => ?_, fun b o u e => ?_, fun b ps e => ?_⟩, I.loc, I.cell, ?_, fun x c e => ?_, fun p hp => ?_, fun a o e => ?_, I.len⟩
  · by_cases hb : b ∈ F
    · exact era_in hb
    · rw [era_out hb]; exact I.base.free b o e n hx
  · have q := I.base.tups b xs e
    have hb : b ∉ F := fun hb => by
      obtain ⟨_, o, ho, h1, _⟩ := (hF b hb).there I
      rw [q] at ho; cases ho; exact h1 _ rfl
    rw [era_out hb]; exact q
  · have q := I.base.frzs b o u e
    have hb : b ∉ F := fun hb => by
      obtain ⟨_, o, ho, _, h1, _⟩ := (hF b hb).there I
      rw [q] at ho; cases ho; exact h1 _ _ rfl
    rw [era_out hb]; exact q
  · obtain ⟨more, q⟩ := I.base.tbls b ps e
    have hb : b ∉ F := fun hb => by
      obtain ⟨_, o, ho, _, _, h1⟩ := (hF b hb).there I
      rw [q] at ho; cases ho; exact h1 _ rfl
    exact ⟨more, by rw [era_out hb]; exact q⟩
  · by_cases hb : X.env.locals ∈ F
    · exact era_in hb
    · rw [era_out hb]; exact I.free
  · by_cases hb : c ∈ F
    · exact era_in hb
    · rw [era_out hb]; exact I.freeC x c e
  · rcases List.mem_append.mp hp with hp' | hp'
    · obtain ⟨e, n, ne, nf, d⟩ := I.pin p (List.mem_append_left _ hp')
      exact ⟨e, era_none n, ne, nf, d⟩
    rcases List.mem_append.mp hp' with hp' | hp'
    · obtain ⟨e, n, ne, nf, d⟩ := I.pin p (List.mem_append_right _ hp')
      exact ⟨e, era_none n, ne, nf, d⟩
    · obtain ⟨a, ha, e⟩ := List.mem_filterMap.mp hp'
      obtain ⟨⟨o, e2, d⟩, o', ho, _⟩ := (hF a ha).there I
      rw [e2] at e
      cases e
      refine ⟨e2, era_in ha, fun z => ?_, fun z => ?_, d⟩
      · have q := I.free
        rw [← show a = X.env.locals from z, ho] at q; cases q
      · have q := inv_fsFree I a z
        rw [ho] at q; cases q
  · obtain ⟨ha, e⟩ := era_some e
    refine (I.hok a o e).stay (fun b u _ q => q) (fun b q => ?_) (fun b xs q => ?_)
    · rw [era_out (own_out a b ha q)]; exact q
    · have hb : b ∉ F := fun hb => by
        obtain ⟨_, o, ho, h1, _⟩ := (hF b hb).there I
        rw [q] at ho; cases ho; exact h1 _ rfl
      rw [era_out hb]; exact q
/-- and back -/
theorem inv_back {P : List (Addr × Obj)} (I : Inv X pins σ H s) (hF : ∀ a ∈ F, Asd H F a) (hP : ∀ a ∈ F, ∃ o, s.heap.get? a = some o ∧ (a, o) ∈ P) {σ' : St} (J : Inv X (pins ++ P) σ' H' s') (hn : ∀ a ∈ F, H' a = none) : Inv X pins σ' (res H' H F) s' := by
  have same : ∀ a ∈ F, ∀ o, s.heap.get? a = some o → s'.heap.get? a = some o := fun a ha o e => by
    obtain ⟨o', e', hp⟩ := hP a ha
    rw [e] at e'; cases e'
    exact (J.pin (a, o) (List.mem_append_right _ (List.mem_append_right _ hp))).1
  have sm := res_same (H := H) hn
  have notF : ∀ {b : Addr} {o : HO}, H' b = some o → b ∉ F := fun {b o} e hb => by rw [hn b hb] at e; cases e
  have freeF : ∀ {b : Addr}, H b = none → b ∉ F := fun {b} e hb => by
    obtain ⟨_, o, ho, _⟩ := (hF b hb).there I
    rw [e] at ho; cases ho
  refine ⟨J.ok, J.os, J.bare, ⟨J.base.keep, J.base.slot, fun b o e n hx => ?_, J.base.there, fun b xs e => sm _ _ (J.base.tups b xs e), fun b o u e => sm _ _ (J.base.frzs b o u e), fun b ps e => ?_⟩, J.loc, J.cell, ?_, fun x c e => ?_, fun p hp => ?_, fun a o e => ?_, J.len⟩
  · rw [res_out (freeF (I.base.free b o e n hx))]; exact J.base.free b o e n hx
  · obtain ⟨more, q⟩ := J.base.tbls b ps e
    exact ⟨more, sm _ _ q⟩
  · rw [res_out (freeF I.free)]; exact J.free
  · rw [res_out (freeF (I.freeC x c e))]; exact J.freeC x c e
  · have hp2 : p ∈ X.pn ++ (pins ++ P) := by rw [← List.append_assoc]; exact List.mem_append_left _ hp
    obtain ⟨e, n, ne, nf, d⟩ := J.pin p hp2
    exact ⟨e, by rw [res_out (freeF (I.pin p hp).2.1)]; exact n, ne, nf, d⟩
  · by_cases ha : a ∈ F
    · rw [res_in ha] at e
      have q := hF a ha
      have ok := I.hok a o e
      cases q with
      | lst h =>
        rw [e] at h; cases h
        obtain ⟨z, its, n, r, g⟩ := ok
        exact ⟨z, its, n, r, same a ha _ g⟩
      | dK h =>
        rw [e] at h; cases h
        obtain ⟨z, y, vs, r, ob, es, ep, g, c⟩ := ok
        exact ⟨z, y, vs, r, ob, es, ep, same a ha _ g, c⟩
      | ins h hd =>
        rw [e] at h; cases h
        obtain ⟨d, z, ne, g, mA, ⟨od, es, ep, e2, c⟩, r⟩ := ok
        exact ⟨by rw [res_in hd]; exact d, z, ne, same a ha _ g, mA, ⟨od, es, ep, same _ hd _ e2, c⟩, r⟩
      | own h hx hf =>
        rw [e] at h; cases h
        obtain ⟨ob, g⟩ := ok
        exact ⟨ob, same a ha _ g⟩
    · rw [res_out ha] at e
      exact (J.hok a o e).stay (fun b u _ q => q) (fun b q => sm _ _ q) (fun b xs q => sm _ _ q)
end
section
variable {X : Cx} {H0 : Hp} {G G1 : Ctx} {G' : Option Ctx} {R : Rel} {e : Expr} {u : Bool} {st : Stmt}
/-- a pure expression, some things set aside -/
def fEv (X : Cx) (H0 : Hp) (G : Ctx) (R : Rel) : TE := fun σ H Q => ∃ F, (∀ a ∈ F, Asd H F a) ∧ Same H0 (era H F) ∧ Slots X G σ (era H F) ∧ ∀ v H', Same (era H F) H' → (∀ a ∈ F, H' a = none) → R.p v H' → Q v (res H' H F)
def fTv (X : Cx) (H0 : Hp) (G : Ctx) (b : Bool) : TT := fun σ H Q => ∃ F, (∀ a ∈ F, Asd H F a) ∧ Same H0 (era H F) ∧ Slots X G σ (era H F) ∧ ∀ H', Same (era H F) H' → (∀ a ∈ F, H' a = none) → Q b (res H' H F)
theorem Ev.frame (h : Ev X H0 G e R) : PE X e (fEv X H0 G R) := by
  refine ⟨fun pins s σ H Q I q => ?_⟩
  obtain ⟨F, hF, g, S, q⟩ := q
  obtain ⟨P, hP, hPF, J⟩ := inv_aside I hF
  refine thn (h.run (pins ++ P) s σ (era H F) (fun v H' => Same (era H F) H' ∧ R.p v H') J ⟨g, S, fun v H' s r => ⟨s, r⟩⟩) fun u s' hh => ?_
  obtain ⟨v, H', J', rv, s', r⟩ := hh
  have hn : ∀ a ∈ F, H' a = none := fun a ha => by
    obtain ⟨o, _, hp⟩ := hP a ha
    exact (J'.pin _ (List.mem_append_right _ (List.mem_append_right _ hp))).2.1
  exact ⟨v, _, inv_back I hF hP J' hn, rv, q v H' s' hn r⟩
theorem Tv.frame (h : Tv X H0 G e u) : PT X e (fTv X H0 G u) := by
  refine ⟨fun pins s σ H Q I q => ?_⟩
  obtain ⟨F, hF, g, S, q⟩ := q
  obtain ⟨P, hP, hPF, J⟩ := inv_aside I hF
  refine thn (h.run (pins ++ P) s σ (era H F) (fun v H' => Same (era H F) H' ∧ v = u) J ⟨g, S, fun H' s => ⟨s, rfl⟩⟩) fun v s' hh => ?_
  obtain ⟨H', J', s', r⟩ := hh
  subst r
  have hn : ∀ a ∈ F, H' a = none := fun a ha => by
    obtain ⟨o, _, hp⟩ := hP a ha
    exact (J'.pin _ (List.mem_append_right _ (List.mem_append_right _ hp))).2.1
  exact ⟨_, inv_back I hF hP J' hn, q H' s' hn⟩
end
end Fk

namespace Fk
open PySem L2
/-! ### targets -/
structure Sto (X : Cx) (x : Str) : Prop where
  loc : Loc X.env.scope x
  fn : X.fn x = true ∨ X.env.scope.names.lookup x = some .local
theorem Body.sto {X : Cx} (B : Body X) {x : Str} (h : x ∈ X.N) (hx : X.env.scope.names.lookup x ≠ none) : Sto X x := ⟨B.locOf h hx, .inl (B.fn x)⟩
def tGv (X : Cx) (H0 : Hp) (G : Ctx) (R : Rel) (G' : Ctx) (ix : List Nat) : TG := fun v σ H Q => Same H0 H ∧ Slots X G σ H ∧ R.p v H ∧ ∀ σ' H', Same H H' → Slots X G' σ' H' → (∀ vs : List Nat, (∀ i ∈ ix, i ∈ vs) → wipe σ' vs = wipe σ vs) → Q σ' H'
def Gv (X : Cx) (H0 : Hp) (G : Ctx) (tg : Expr) (R : Rel) (G' : Ctx) (ix : List Nat) : Prop := PG X tg (tGv X H0 G R G' ix)
theorem wipe_comm {σ : St} {i j : Nat} {o : Option V} : ∀ vs : List Nat, (wipe (σ.set i o) vs)[j]? = if j ∈ vs then (σ.set i o)[j]?.map fun _ => none else (σ.set i o)[j]? := by
  intro vs
  induction vs with
  | nil => simp [wipe]
  | cons v vs ih =>
    show ((wipe (σ.set i o) vs).set v none)[j]? = _
    rw [List.getElem?_set]
    by_cases h : v = j
    · subst h
      rw [if_pos rfl, wipe_length]
      rw [if_pos (List.mem_cons_self)]
      by_cases hl : v < (σ.set i o).length
      · rw [if_pos hl, List.getElem?_eq_getElem hl]; rfl
      · rw [if_neg hl, List.getElem?_eq_none (by omega)]; rfl
    · rw [if_neg h, ih]
      by_cases hm : j ∈ vs
      · rw [if_pos hm, if_pos (List.mem_cons_of_mem _ hm)]
      · rw [if_neg hm, if_neg (by simp [hm]; exact fun z => h z.symm)]
theorem wipe_get {σ : St} {j : Nat} : ∀ vs : List Nat, (wipe σ vs)[j]? = if j ∈ vs then σ[j]?.map fun _ => none else σ[j]? := by
  intro vs
  induction vs with
  | nil => simp [wipe]
  | cons v vs ih =>
    show ((wipe σ vs).set v none)[j]? = _
    rw [List.getElem?_set]
    by_cases h : v = j
    · subst h
      rw [if_pos rfl, wipe_length]
      rw [if_pos (List.mem_cons_self)]
      by_cases hl : v < σ.length
      · rw [if_pos hl, List.getElem?_eq_getElem hl]; rfl
      · rw [if_neg hl, List.getElem?_eq_none (by omega)]; rfl
    · rw [if_neg h, ih]
      by_cases hm : j ∈ vs
      · rw [if_pos hm, if_pos (List.mem_cons_of_mem _ hm)]
      · rw [if_neg hm, if_neg (by simp [hm]; exact fun z => h z.symm)]
theorem wipe_set {σ : St} {i : Nat} {o : Option V} {vs : List Nat} (h : i ∈ vs) : wipe (σ.set i o) vs = wipe σ vs := by
  apply List.ext_getElem?
  intro j
  rw [wipe_get, wipe_get]
  by_cases hj : j ∈ vs
  · rw [if_pos hj, if_pos hj]
    by_cases hi : i = j
    · subst hi
      rw [List.getElem?_set]
      by_cases hl : i < σ.length
      · rw [if_pos rfl, if_pos hl, List.getElem?_eq_getElem hl]; rfl
      · rw [if_pos rfl, if_neg hl, List.getElem?_eq_none (by omega)]
    · rw [List.getElem?_set_ne hi]
  · rw [if_neg hj, if_neg hj, List.getElem?_set_ne (by rintro rfl; exact hj h)]
section
variable {X : Cx} {H0 : Hp} {G G1 G2 G3 : Ctx} {G' : Option Ctx} {R Ra Rb Rc Rr : Rel} {tg e e1 e2 e3 iter a b : Expr} {x : Str} {pos p pos' : Pos} {i j k : Nat} {ix jx kx : List Nat} {u : Bool}
theorem gv_name (hs : Sto X x) (hd : X.N.Nodup) (c : SetCtx x (some R) G G1 i) : Gv X H0 G (.Name x pos) R G1 [i] := by
  by_cases hN : X.N = G.map (·.1)
  · have hi : X.N[i]? = some x := by rw [hN]; exact c.name
    have vis : Vis X.env.scope x := by
      rcases hs.loc with k | k
      · exact .inl k
      · exact .inr (.inl k)
    refine ⟨fun pins s σ H v u Q I r q => ?_⟩
    obtain ⟨g, S, hr, q⟩ := q
    exact (pg_name (i := i) hd hi hs.loc hs.fn).run pins s σ H v u Q I r (q _ _ (Same.refl H) (Slots.set vis c S hr) fun vs h => wipe_set (h i List.mem_cons_self))
  · exact ⟨fun pins s σ H v u Q I r q => absurd q.2.1.1 hN⟩
theorem gv_tup2 {n : Nat} (hc : X.calm = true) (h1 : Gv X H0 G e1 Ra G1 ix) (h2 : Gv X H0 G1 e2 Rb G2 jx) (hs1 : (assignEach (e1 :: e2 :: []) X.env).map (·.2) = assign e1 X.env :: (assignEach (e2 :: []) X.env).map (·.2))
    (hs2 : (assignEach (e2 :: []) X.env).map (·.2) = assign e2 X.env :: (assignEach [] X.env).map (·.2)) (hn : (assignEach [e1, e2] X.env).length = 2) (hst : (assignEach [e1, e2] X.env).findIdx? (·.1) = none) :
    Gv X H0 G (.Tuple [e1, e2] n pos) (tupR [Ra, Rb]) G2 (ix ++ jx) := by
  have hp := pg_tup (X := X) (k := n) (pos := pos) hc (pgs_cons h1 (pgs_cons h2 pgs_nil hs2) hs1) hn hst
  refine ⟨fun pins s σ H v u Q I r q => hp.run pins s σ H v u Q I r ?_⟩
  obtain ⟨g, S, ⟨a, vs, rfl, ha, hr⟩, q⟩ := q
  obtain ⟨v1, v2, rfl, r1, r2⟩ := hr.two
  refine ⟨a, _, rfl, SqT.of ha, rfl, v1, _, rfl, g, S, r1, fun σ1 H1 s1 S1 w1 => ⟨v2, _, rfl, g.trans s1, S1, Rb.up s1 r2, fun σ2 H2 s2 S2 w2 => ⟨rfl, q _ _ (s1.trans s2) S2 fun vs h => ?_⟩⟩⟩
  rw [w2 vs fun i hi => h i (List.mem_append_right _ hi), w1 vs fun i hi => h i (List.mem_append_left _ hi)]
/-- a, b = e, a tuple of two -/
theorem bv_tup2 {sts : List Stmt} {n : Nat} (he : Ev X H0 G e R) (l : R.le (tupR [Ra, Rb])) (hg : Gv X H0 G (.Tuple [e1, e2] n pos') (tupR [Ra, Rb]) G2 ix) (h2 : Bv X H0 G2 sts G' Rr) (hs : swapsWithSole [.Tuple [e1, e2] n pos'] e pos.line X.env = pure false) (hw : swappedStores [.Tuple [e1, e2] n pos'] e X.env = pure none)
    (h1 : (assignEach [.Tuple [e1, e2] n pos'] X.env).map (·.2) = [assign (.Tuple [e1, e2] n pos') X.env]) : Bv X H0 G (.Assign [.Tuple [e1, e2] n pos'] e pos :: sts) G' Rr := by
  refine bv_cons (G1 := G2) (PS_imp (ps_asg he hg hs hw h1) fun D σ H q => ?_) h2
  obtain ⟨g, S, qn, q⟩ := q
  exact ⟨g, S, fun v H1 s1 r1 => ⟨g.trans s1, S.up s1, l _ _ r1, fun σ' H' s2 S2 _ => qn _ _ _ rfl (s1.trans s2) S2⟩⟩
/-- a, b = x, y, both plain locals -/
theorem bv_par {sts : List Stmt} {y : Str} {px py pt : Pos} {kt k2 : Nat} {pt2 : Pos} (B : Body X) (ha : Av X H0 G [a, b] [Ra, Rb]) (hx : X.env.scope.names.lookup x = some .local) (hy : X.env.scope.names.lookup y = some .local) (c1 : SetCtx x (some Ra) G G1 i) (c2 : SetCtx y (some Rb) G1 G2 j) (hij : i ≠ j) (h2 : Bv X H0 G2 sts G' Rr)
    (hw : swappedStores [.Tuple [.Name x px, .Name y py] kt pt] (.Tuple [a, b] k2 pt2) X.env = pure (some [x, y]))
    (hs : swapsWithSole [.Tuple [.Name x px, .Name y py] kt pt] (.Tuple [a, b] k2 pt2) pos.line X.env = pure false) :
    Bv X H0 G (.Assign [.Tuple [.Name x px, .Name y py] kt pt] (.Tuple [a, b] k2 pt2) pos :: sts) G' Rr := by
  refine bv_cons (G1 := G2) ?_ h2
  by_cases hN : X.N = G.map (·.1)
  · have hi : X.N[i]? = some x := by rw [hN]; exact c1.name
    have hj : X.N[j]? = some y := by rw [hN, ← c1.names]; exact c2.name
    refine PS_imp (ps_par B.calm B.nd hi hj hij hx hy ha hw hs) fun D σ H q => ?_
    obtain ⟨g, S, qn, q⟩ := q
    refine ⟨g, S, fun vs H1 s1 r1 => ?_⟩
    obtain ⟨v, w, rfl, r1, r2⟩ := r1.two
    exact ⟨v, w, rfl, qn _ _ _ rfl s1 (Slots.set (.inl hy) c2 (Slots.set (.inl hx) c1 (S.up s1) r1) r2)⟩
  · exact PS_imp ps_never fun D σ H q => hN q.2.1.1

/-! ### what is walked -/
variable {α β : Type}
def ItW (J : It) (xs : List α) (R : α → Rel) (H1 : Hp) : Prop := ∃ (Gd : Hp → Prop) (Y : Nat → Hp → V → Hp → Prop), Gd H1 ∧ (∀ H', Same H1 H' → Gd H') ∧ Walk J xs.length Gd Y ∧
  (∀ i H x H', i < xs.length → Same H1 H → Y i H x H' → Same H H' ∧ ∃ a, xs[i]? = some a ∧ (R a).p x H') ∧
  ∀ i H x H2 D o, H D = none → Y i (upd H D o) x H2 → ∃ H', H2 = upd H' D o ∧ H' D = none ∧ Y i H x H'
theorem fr_at {vs : List V} : ∀ i H x H2 D o, H D = none → YAt vs i (upd H D o) x H2 → ∃ H', H2 = upd H' D o ∧ H' D = none ∧ YAt vs i H x H' := fun i H x H2 D o hD y => ⟨H, y.1, hD, rfl, y.2⟩
theorem fr_fn {f : Nat → V} : ∀ i H x H2 D o, H D = none → YFn f i (upd H D o) x H2 → ∃ H', H2 = upd H' D o ∧ H' D = none ∧ YFn f i H x H' := fun i H x H2 D o hD y => ⟨H, y.1, hD, rfl, y.2⟩
theorem upd_swap {H : Hp} {a b : Addr} {o u : HO} (h : a ≠ b) : upd (upd H a o) b u = upd (upd H b u) a o := by
  funext c
  unfold upd
  by_cases h1 : c = a
  · subst h1; rw [if_neg h, if_pos rfl, if_pos rfl]
  · rw [if_neg h1, if_neg h1]
theorem fr_pair {f g : Nat → Option V} : ∀ i H x H2 D o, H D = none → YPair f g i (upd H D o) x H2 → ∃ H', H2 = upd H' D o ∧ H' D = none ∧ YPair f g i H x H' := fun i H x H2 D o hD y => by
  obtain ⟨T, a, b, e, hT, rfl, e1, e2⟩ := y
  have ne : D ≠ T := by
    rintro rfl
    rw [upd_same] at hT
    cases hT
  rw [upd_ne ne.symm] at hT
  exact ⟨_, upd_swap ne, by rw [upd_ne ne]; exact hD, T, a, b, e, hT, rfl, e1, e2⟩
def Pv (X : Cx) (H0 : Hp) (G : Ctx) (tg iter : Expr) (xs : List α) (R : α → Rel) : Prop := ∃ wi, PI X tg iter wi ∧ ∀ σ H (Rk : It → Hp → Prop), Same H0 H → Slots X G σ H → (∀ J H1, Same H H1 → ItW J xs R H1 → Rk J H1) → wi σ H Rk
theorem args_at {xs : List α} {R : α → Rel} {vs : List V} {H : Hp} {i : Nat} {x : V} (h : Args (xs.map R) vs H) (e : vs[i]? = some x) : ∃ a, xs[i]? = some a ∧ (R a).p x H := by
  have hl := h.length
  rw [List.length_map] at hl
  have hi : i < xs.length := by
    have := (List.getElem?_eq_some_iff.mp e).1
    omega
  obtain ⟨v, e2, r⟩ := h.get (i := i) (R := R xs[i]) (by rw [List.getElem?_map, List.getElem?_eq_getElem hi]; rfl)
  rw [e] at e2
  cases e2
  exact ⟨xs[i], List.getElem?_eq_getElem hi, r⟩
theorem pv_list {xs : List α} {R : α → Rel} (he : Ev X H0 G iter (sqR X.K (xs.map R))) : Pv X H0 G tg iter xs R := by
  refine ⟨_, pi_list he, fun σ H Rk g S q => ⟨g, S, fun v H1 s1 r1 => ?_⟩⟩
  obtain ⟨a, vs, rfl, ha, r⟩ := r1
  have hl := r.length
  rw [List.length_map] at hl
  refine ⟨a, rfl, ⟨vs, ha⟩, q _ _ s1 ⟨fun H => SqL X.K H a vs, YAt vs, ha, fun H' s => s.seq ha, by rw [← hl]; exact walk_list, fun i H x H' hi s y => ?_, fr_at⟩⟩
  obtain ⟨rfl, e⟩ := y
  exact ⟨Same.refl _, args_at (r.up s) e⟩
theorem pv_lst {xs : List α} {R : α → Rel} (he : Ev X H0 G iter (lstR (xs.map R))) : Pv X H0 G tg iter xs R := pv_list (he.le lst_sq)
theorem pv_tup {xs : List α} {R : α → Rel} (he : Ev X H0 G iter (tupR (xs.map R))) : Pv X H0 G tg iter xs R := by
  refine ⟨_, pi_tup he, fun σ H Rk g S q => ⟨g, S, fun v H1 s1 r1 => ?_⟩⟩
  obtain ⟨a, vs, rfl, ha, r⟩ := r1
  have hl := r.length
  rw [List.length_map] at hl
  refine ⟨a, rfl, ⟨vs, SqT.of ha⟩, q _ _ s1 ⟨fun H => SqT X.K H a vs, YAt vs, SqT.of ha, fun H' s => SqT.of (s _ _ ha), by rw [← hl]; exact walk_tup, fun i H x H' hi s y => ?_, fr_at⟩⟩
  obtain ⟨rfl, e⟩ := y
  exact ⟨Same.refl _, args_at (r.up s) e⟩
theorem pv_range {n : Int} (he : Ev X H0 G e (intR n)) (h0 : 0 ≤ n) (h1 : n < 2 ^ 62) (hm : X.mg "range" = none) (hg : Gl X "range") (hs : starEach [e] X.env = [(false, eval e X.env)]) (hs2 : starEach (e :: []) X.env = (false, eval e X.env) :: starEach [] X.env) :
    Pv X H0 G tg (.Call (.Name "range" p) [e] [] pos) (List.range n.toNat) (fun i => intR (i : Nat)) := by
  refine ⟨_, pi_range1 hg hm (av_cons he av_nil hs2) hs, fun σ H Rk g S q => ⟨g, S, fun vs H1 s1 r1 => ?_⟩⟩
  obtain ⟨v, rfl, r⟩ := r1.one
  refine ⟨n, by rw [show v = V.int n from r], by omega, h1, q _ _ s1 ⟨fun _ => True, YFn fun i => .int (0 + i), trivial, fun _ _ => trivial, by rw [List.length_range]; exact walk_range, fun i H x H' hi s y => ?_, fr_fn⟩⟩
  obtain ⟨rfl, rfl⟩ := y
  rw [List.length_range] at hi
  exact ⟨Same.refl _, i, by rw [List.getElem?_eq_getElem (by simpa using hi)]; simp, by show V.int _ = V.int _; rw [Int.zero_add]⟩
theorem pv_enum {xs : List α} {R : α → Rel} {elts : List Expr} {kk : Nat} {tpos : Pos} (he : Ev X H0 G e (sqR X.K (xs.map R))) (hm : X.mg "enumerate" = none) (hg : Gl X "enumerate") (hs : starEach [e] X.env = [(false, eval e X.env)]) (hs2 : starEach (e :: []) X.env = (false, eval e X.env) :: starEach [] X.env) :
    Pv X H0 G (.Tuple elts kk tpos) (.Call (.Name "enumerate" p) [e] [] pos) xs.zipIdx (fun q => tupR [intR (q.2 : Nat), R q.1]) := by
  refine ⟨_, pi_enum hg hm (av_cons he av_nil hs2) hs, fun σ H Rk g S q => ⟨g, S, fun vs H1 s1 r1 => ?_⟩⟩
  obtain ⟨v, rfl, a, ws, rfl, ha, r⟩ := r1.one
  have hl := r.length
  rw [List.length_map] at hl
  refine ⟨a, ws, rfl, ha, q _ _ s1 ⟨fun H => SqL X.K H a ws, _, ha, fun H' s => s.seq ha, by rw [List.length_zipIdx, ← hl]; exact walk_enum, fun i H x H' hi s y => ?_, fr_pair⟩⟩
  obtain ⟨T, x1, y1, rfl, hT, rfl, e1, e2⟩ := y
  cases e1
  obtain ⟨b, eb, rb⟩ := args_at (r.up (s.trans (same_new (o := .tup [V.int (i : Nat), y1]) hT))) e2
  exact ⟨same_new hT, (b, i), by rw [List.getElem?_zipIdx, eb]; simp, T, _, rfl, upd_same, rfl, rb, trivial⟩
theorem pv_zip {xs : List α} {ys : List β} {R : α → Rel} {S : β → Rel} {elts : List Expr} {kk : Nat} {tpos : Pos} (ha : Ev X H0 G a (sqR X.K (xs.map R))) (hb : Ev X H0 G b (sqR X.K (ys.map S))) (hm : X.mg "zip" = none) (hg : Gl X "zip")
    (hs : starEach (a :: [b]) X.env = (false, eval a X.env) :: starEach [b] X.env) (hs2 : starEach (b :: []) X.env = (false, eval b X.env) :: starEach [] X.env) (hpl : (backTo pos (starEach [b] X.env)).any (·.1) = false) :
    Pv X H0 G (.Tuple elts kk tpos) (.Call (.Name "zip" p) [a, b] [] pos) (xs.zip ys) (fun q => tupR [R q.1, S q.2]) := by
  refine ⟨_, pi_zip hg hm (av_cons ha (av_cons hb av_nil hs2) hs) hs hpl, fun σ H Rk g Sl q => ⟨g, Sl, fun vs H1 s1 r1 => ?_⟩⟩
  obtain ⟨v, w, rfl, ⟨a1, ws, rfl, ha1, r⟩, ⟨b1, us, rfl, hb1, r2⟩⟩ := r1.two
  have hl := r.length
  have hl2 := r2.length
  rw [List.length_map] at hl hl2
  refine ⟨a1, b1, ws, us, rfl, ha1, hb1, q _ _ s1 ⟨fun H => SqL X.K H a1 ws ∧ SqL X.K H b1 us, _, ⟨ha1, hb1⟩, fun H' s => ⟨s.seq ha1, s.seq hb1⟩, walk_zip (by rw [List.length_zip, hl, hl2]), fun i H x H' hi s y => ?_, fr_pair⟩⟩
  obtain ⟨T, x1, y1, rfl, hT, rfl, e1, e2⟩ := y
  have sn := s.trans (same_new (o := .tup [x1, y1]) hT)
  obtain ⟨c, ec, rc⟩ := args_at (r.up sn) e1
  obtain ⟨d, ed, rd⟩ := args_at (r2.up sn) e2
  exact ⟨same_new hT, (c, d), (List.getElem?_zip_eq_some (z := (c, d))).mpr ⟨ec, ed⟩, T, _, rfl, upd_same, rc, rd, trivial⟩

/-! ### for -/
theorem bv_for {xs : List α} {R : α → Rel} {C : Nat → Ctx} {body sts : List Stmt} (B : Body X) (hi : Pv X H0 G tg iter xs R) (l0 : CtxLe G (C 0))
    (hb : ∀ i a, xs[i]? = some a → ∃ G1 G2 ix, Gv X H0 (C i) tg (R a) G1 ix ∧ Bv X H0 G1 body (some G2) Rr ∧ CtxLe G2 (C (i + 1))) (hr : Bv X H0 (C xs.length) sts G' Rr) (hs : ∀ x, foldedSetIterable iter X.env x = pure x) :
    Bv X H0 G (.For tg iter body [] pos :: sts) G' Rr := by
  obtain ⟨wi, hpi, hw⟩ := hi
  refine bv_cons (G1 := C xs.length) ?_ hr
  have hg : PG X tg (fun v σ H Q => ∃ G R G1 ix, Gv X H0 G tg R G1 ix ∧ tGv X H0 G R G1 ix v σ H Q) := ⟨fun pins s σ H v u Q I r q => by
    obtain ⟨G, R, G1, ix, hg, q⟩ := q
    exact hg.run pins s σ H v u Q I r q⟩
  have hbd : PSs X body (fun D σ H => ∃ G G2, Bv X H0 G body (some G2) Rr ∧ tSv X H0 G (some G2) Rr D σ H) := ⟨fun pins s σ H D I q => by
    obtain ⟨G, G2, hb, q⟩ := q
    exact hb.run pins s σ H D I q⟩
  refine PS_imp (ps_for B.own B.calm hpi hg hbd hs) fun D σ H q => ?_
  obtain ⟨g, S, qn, q⟩ := q
  refine hw σ H _ g S fun J H1 s1 W => ?_
  obtain ⟨Gd, Y, hG, hGs, wk, hy, _⟩ := W
  refine for_it (g := fun v σ H Q => ∃ G R G1 ix, Gv X H0 G tg R G1 ix ∧ tGv X H0 G R G1 ix v σ H Q) (tb := fun D σ H => ∃ G G2, Bv X H0 G body (some G2) Rr ∧ tSv X H0 G (some G2) Rr D σ H) wk (fun i σ' H' => Same H1 H' ∧ Slots X (C i) σ' H') ⟨Same.refl _, (S.up s1).le l0⟩ (fun i σ' H' _ q' => hGs _ q'.1) (fun i x σ' H' H2 hi q' y => ?_) fun σ' H' q' => qn _ _ _ rfl (s1.trans q'.1) q'.2
  obtain ⟨s2, a, ea, ra⟩ := hy i H' x H2 hi q'.1 y
  obtain ⟨G1, G2, ix, h1, h2, h3⟩ := hb i a ea
  have sa := s1.trans (q'.1.trans s2)
  refine ⟨C i, R a, G1, ix, h1, g.trans sa, q'.2.up s2, ra, fun σ3 H3 s3 S3 _ => ⟨G1, G2, h2, g.trans (sa.trans s3), S3, fun C' σ4 H4 e s4 S4 => ?_, fun v H4 s4 r4 => q v H4 (sa.trans (s3.trans s4)) r4⟩⟩
  cases e
  exact ⟨q'.1.trans (s2.trans (s3.trans s4)), S4.le h3⟩

/-- one turn -/
def Turn (X : Cx) (H0 : Hp) (C : Ctx) (tg : Expr) (R : Rel) (body : List Stmt) (Rr : Rel) (C' : Ctx) : Prop := ∃ G1 G2 ix, Gv X H0 C tg R G1 ix ∧ Bv X H0 G1 body (some G2) Rr ∧ CtxLe G2 C'
theorem turn_mk {C C' : Ctx} {body : List Stmt} (h1 : Gv X H0 C tg R G1 ix) (h2 : Bv X H0 G1 body (some G2) Rr) (h3 : CtxLe G2 C') : Turn X H0 C tg R body Rr C' := ⟨G1, G2, ix, h1, h2, h3⟩
theorem bv_forT {xs : List α} {R : α → Rel} (C : Nat → Ctx) {body sts : List Stmt} (B : Body X) (hi : Pv X H0 G tg iter xs R) (l0 : CtxLe G (C 0))
    (hb : ∀ i a, xs[i]? = some a → Turn X H0 (C i) tg (R a) body Rr (C (i + 1))) (hr : Bv X H0 (C xs.length) sts G' Rr) (hs : ∀ x, foldedSetIterable iter X.env x = pure x) :
    Bv X H0 G (.For tg iter body [] pos :: sts) G' Rr := bv_for B hi l0 hb hr hs
/-! ### list comprehensions -/
/-- what the block of a comprehension sees: names that stand in its scope and are not its own -/
inductive CtxBlk (scope : Scope) (own : List (Str × Nat)) : Ctx → Ctx → Prop
  | nil : CtxBlk scope own [] []
  | some {x : Str} {S : Rel} {C C' : Ctx} (hv : Vis scope x) (ho : x ∉ own.map (·.1)) (t : CtxBlk scope own C C') : CtxBlk scope own ((x, some S) :: C) ((x, some S) :: C')
  | none {x : Str} {o : Option Rel} {C C' : Ctx} (t : CtxBlk scope own C C') : CtxBlk scope own ((x, o) :: C) ((x, none) :: C')
theorem CtxBlk.le {scope : Scope} {own : List (Str × Nat)} {C C' : Ctx} (h : CtxBlk scope own C C') : CtxLe C C' := by
  induction h with
  | nil => exact .nil
  | some _ _ _ ih => exact .some (.refl _) ih
  | none _ ih => exact .none ih
theorem CtxBlk.get {scope : Scope} {own : List (Str × Nat)} {C C' : Ctx} (h : CtxBlk scope own C C') : ∀ {i : Nat} {x : Str} {S : Rel}, C'[i]? = Option.some (x, Option.some S) → Vis scope x ∧ x ∉ own.map (·.1) := by
  induction h with
  | nil => intro i x S e; simp at e
  | some hv ho _ ih =>
    intro i x S e
    cases i with
    | zero => simp at e; obtain ⟨rfl, rfl⟩ := e; exact ⟨hv, ho⟩
    | succ i => exact ih (i := i) (by simpa using e)
  | none _ ih =>
    intro i x S e
    cases i with
    | zero => simp at e
    | succ i => exact ih (i := i) (by simpa using e)
/-- what is known of a block's context -/
structure InBlk (X X' : Cx) (scope : Scope) : Prop where
  prog : X'.prog = X.prog
  w : X'.w = X.w
  K : X'.K = X.K
  mg : X'.mg = X.mg
  base : X'.base = X.base
  A : X'.A = X.A
  N : X'.N = X.N
  calm : X'.calm = X.calm
  sc : X'.env.scope = relabel scope X.env
theorem lookup_relabel {env : Env} {x : Str} : ∀ {names : List (Str × NameKind)}, (names.map fun (n, k) => if (k == NameKind.free && env.scope.kind == .function && env.kindOf n == some .cell) then (n, NameKind.cell) else (n, k)).lookup x =
    (names.lookup x).map fun k => if (k == NameKind.free && env.scope.kind == .function && env.kindOf x == some .cell) then NameKind.cell else k
  | [] => rfl
  | (n, k) :: r => by
    have ih := lookup_relabel (env := env) (x := x) (names := r)
    show List.lookup x ((if (k == NameKind.free && env.scope.kind == .function && env.kindOf n == some .cell) = true then (n, NameKind.cell) else (n, k)) :: _) = _
    cases hx : x == n with
    | true =>
      have e : x = n := eq_of_beq hx
      subst e
      by_cases hc : (k == NameKind.free && env.scope.kind == .function && env.kindOf x == some .cell) = true
      · rw [if_pos hc]
        simp only [List.lookup_cons, hx, Option.map_some, hc, if_true]
      · rw [if_neg hc]
        simp only [List.lookup_cons, hx, Option.map_some]
        rw [if_neg hc]
    | false =>
      by_cases hc : (k == NameKind.free && env.scope.kind == .function && env.kindOf n == some .cell) = true
      · rw [if_pos hc]
        simp only [List.lookup_cons, hx]
        exact ih
      · rw [if_neg hc]
        simp only [List.lookup_cons, hx]
        exact ih
theorem vis_relabel {scope : Scope} {env : Env} (h : Vis scope x) : Vis (relabel scope env) x := by
  have e : (relabel scope env).names.lookup x = _ := lookup_relabel (env := env) (x := x) (names := scope.names)
  unfold Vis
  rw [e]
  rcases h with h | h | h
  · rw [h]; exact .inl rfl
  · rw [h]; exact .inr (.inl rfl)
  · rw [h]
    show some (if _ then _ else _) = _ ∨ some (if _ then _ else _) = _ ∨ some (if _ then _ else _) = _
    split
    · exact .inr (.inl rfl)
    · exact .inr (.inr rfl)
theorem InBlk.sto {X' : Cx} {scope : Scope} (b : InBlk X X' scope) (h : scope.names.lookup x = some .local) : Sto X' x := by
  have e : X'.env.scope.names.lookup x = some .local := by
    rw [b.sc]
    have e : (relabel scope X.env).names.lookup x = _ := lookup_relabel (env := X.env) (x := x) (names := scope.names)
    rw [e, h]
    rfl
  exact ⟨.inl e, .inr e⟩
theorem InBlk.gl {X' : Cx} {scope : Scope} (b : InBlk X X' scope) (h : scope.names.lookup x = some .globalImplicit) : Gl X' x := by
  show X'.env.scope.names.lookup x = _
  rw [b.sc]
  have e : (relabel scope X.env).names.lookup x = _ := lookup_relabel (env := X.env) (x := x) (names := scope.names)
  rw [e, h]
  rfl
theorem CallOk.blk {X' : Cx} {scope : Scope} {Rs : List Rel} (b : InBlk X X' scope) (h : CallOk X x Rs R) : CallOk X' x Rs R := by
  obtain ⟨CX, E, k, f, fd, ps, sp, ds, dvs, F, hr, hm, hk, hb, hd, hx, hsp⟩ := h
  refine ⟨CX, E, k, f, fd, ps, sp, ds, dvs, ?_, by rw [b.A]; exact hr, by rw [b.mg]; exact hm, by rw [b.K]; exact hk, by rw [b.K]; exact hb, hd, fun Y h1 h2 => hx Y (h1.trans b.prog) (h2.trans b.w), hsp⟩
  rw [b.prog, b.w, b.K, b.mg, b.base]
  exact F
/-- one turn of a comprehension: the target, the test (or none), the element -/
inductive LcTest (X : Cx) (H0 : Hp) (G : Ctx) : List Expr → Bool → Prop
  | nil : LcTest X H0 G [] true
  | one {c : Expr} {u : Bool} (h : Tv X H0 G c u) : LcTest X H0 G [c] u

theorem gv_frame (h : Gv X H0 G tg R G1 ix) : PG X tg (fun v σ H Q => ∃ F, (∀ a ∈ F, Asd H F a) ∧ Same H0 (era H F) ∧ Slots X G σ (era H F) ∧ R.p v (era H F) ∧
    ∀ σ' H', Same (era H F) H' → (∀ a ∈ F, H' a = none) → Slots X G1 σ' H' → (∀ vs : List Nat, (∀ i ∈ ix, i ∈ vs) → wipe σ' vs = wipe σ vs) → Q σ' (res H' H F)) := by
  refine ⟨fun pins s σ H v u Q I r q => ?_⟩
  obtain ⟨F, hF, g, S, hr, q⟩ := q
  obtain ⟨P, hP, hPF, J⟩ := inv_aside I hF
  refine thn (h.run (pins ++ P) s σ (era H F) v u (fun σ' H' => Same (era H F) H' ∧ Slots X G1 σ' H' ∧ ∀ vs : List Nat, (∀ i ∈ ix, i ∈ vs) → wipe σ' vs = wipe σ vs) J r ⟨g, S, hr, fun σ' H' s' S' w' => ⟨s', S', w'⟩⟩) fun _ s' hh => ?_
  obtain ⟨σ', H', J', s', S', w'⟩ := hh
  have hn : ∀ a ∈ F, H' a = none := fun a ha => by
    obtain ⟨o, _, hp⟩ := hP a ha
    exact (J'.pin _ (List.mem_append_right _ (List.mem_append_right _ hp))).2.1
  exact ⟨σ', _, inv_back I hF hP J' hn, q σ' H' s' hn S' w'⟩
/-- the pieces of a block, whatever its state: the target, the test, the element -/
def gBlk (X : Cx) (scope : Scope) (H0 : Hp) (tg : Expr) : TG := fun v σ H Q => ∃ G R G1 ix, (∀ X', InBlk X X' scope → Gv X' H0 G tg R G1 ix) ∧ ∃ F, (∀ a ∈ F, Asd H F a) ∧ Same H0 (era H F) ∧ SlotsN X.N (relabel scope X.env) G σ (era H F) ∧ R.p v (era H F) ∧
  ∀ σ' H', Same (era H F) H' → (∀ a ∈ F, H' a = none) → SlotsN X.N (relabel scope X.env) G1 σ' H' → (∀ vs : List Nat, (∀ i ∈ ix, i ∈ vs) → wipe σ' vs = wipe σ vs) → Q σ' (res H' H F)
def tBlk (X : Cx) (scope : Scope) (H0 : Hp) (ifs : List Expr) : TT := fun σ H Q => ∃ G b, (∀ X', InBlk X X' scope → LcTest X' H0 G ifs b) ∧ ∃ F, (∀ a ∈ F, Asd H F a) ∧ Same H0 (era H F) ∧ SlotsN X.N (relabel scope X.env) G σ (era H F) ∧ ∀ H', Same (era H F) H' → (∀ a ∈ F, H' a = none) → Q b (res H' H F)
def eBlk (X : Cx) (scope : Scope) (H0 : Hp) (elt : Expr) : TE := fun σ H Q => ∃ G R, (∀ X', InBlk X X' scope → Ev X' H0 G elt R) ∧ ∃ F, (∀ a ∈ F, Asd H F a) ∧ Same H0 (era H F) ∧ SlotsN X.N (relabel scope X.env) G σ (era H F) ∧ ∀ v H', Same (era H F) H' → (∀ a ∈ F, H' a = none) → R.p v H' → Q v (res H' H F)
theorem res_era {H : Hp} {F : List Addr} : res (era H F) H F = H := by
  funext b
  by_cases hb : b ∈ F
  · rw [res_in hb]
  · rw [res_out hb, era_out hb]
theorem InBlk.slots {X' : Cx} {scope : Scope} (b : InBlk X X' scope) {σ : St} {H : Hp} : Slots X' G σ H ↔ SlotsN X.N (relabel scope X.env) G σ H := by
  unfold Slots
  rw [b.N, b.sc]
theorem pg_blk {X' : Cx} {scope : Scope} (b : InBlk X X' scope) : PG X' tg (gBlk X scope H0 tg) := ⟨fun pins s σ H v u Q I r q => by
  obtain ⟨G, R, G1, ix, hg, F, hF, g, S, hr, q⟩ := q
  exact (gv_frame (hg X' b)).run pins s σ H v u Q I r ⟨F, hF, g, b.slots.mpr S, hr, fun σ' H' s' hn S' w' => q σ' H' s' hn (b.slots.mp S') w'⟩⟩
theorem pts_blk {X' : Cx} {scope : Scope} {ifs : List Expr} (b : InBlk X X' scope) : PTs X' ifs (tBlk X scope H0 ifs) := by
  refine ⟨fun pins s σ H Q I q => ?_⟩
  obtain ⟨G, u, t, F, hF, g, S, q⟩ := q
  have t := t X' b
  cases t with
  | nil =>
    refine pts_nil.run pins s σ H Q I ?_
    show Q true H
    have z := q (era H F) (Same.refl _) fun a ha => era_in ha
    rw [res_era] at z
    exact z
  | one h => exact (pts_one h.frame).run pins s σ H Q I ⟨F, hF, g, b.slots.mpr S, q⟩
theorem pe_blk {X' : Cx} {scope : Scope} {elt : Expr} (b : InBlk X X' scope) : PE X' elt (eBlk X scope H0 elt) := ⟨fun pins s σ H Q I q => by
  obtain ⟨G, R, h, F, hF, g, S, q⟩ := q
  exact (h X' b).frame.run pins s σ H Q I ⟨F, hF, g, b.slots.mpr S, q⟩⟩
theorem SlotsN.up {N : List Str} {sc : Scope} {σ : St} {H H' : Hp} (s : Same H H') (h : SlotsN N sc G σ H) : SlotsN N sc G σ H' :=
  ⟨h.1, h.2.1, fun i x R e => by obtain ⟨k, v, a, b⟩ := h.2.2 i x R e; exact ⟨k, v, a, R.up s b⟩⟩
theorem slots_blk {N : List Str} {sc scope : Scope} {env : Env} {own : List (Str × Nat)} {Gb : Ctx} (hG : CtxBlk scope own G Gb) (ok : BlkOk N sc scope own) {σ : St} {H : Hp} (S : SlotsN N sc G σ H) : SlotsN N (relabel scope env) Gb (wipe σ (own.map (·.2))) H := by
  have l := hG.le
  refine ⟨by rw [l.names.1]; exact S.1, by rw [l.names.2, wipe_length]; exact S.2.1, fun i x R e => ?_⟩
  obtain ⟨hv, ho⟩ := hG.get e
  obtain ⟨S', e', l'⟩ := l.get e
  obtain ⟨_, v, a, b⟩ := S.2.2 i x S' e'
  refine ⟨vis_relabel hv, v, ?_, l' _ _ b⟩
  rw [wipe_get, if_neg ?_]
  · exact a
  · intro hm
    obtain ⟨p, hp, ei⟩ := List.mem_map.mp hm
    have q := ok.ix p hp
    rw [ei, S.1, List.getElem?_map, e'] at q
    have q' : x = p.1 := Option.some.inj q
    exact ho (by rw [q']; exact List.mem_map.mpr ⟨p, hp, rfl⟩)
theorem filter_take {keep : α → Bool} {xs : List α} {i : Nat} {a : α} (h : xs[i]? = some a) : (xs.take (i + 1)).filter keep = (xs.take i).filter keep ++ if keep a = true then [a] else [] := by
  obtain ⟨hi, e⟩ := List.getElem?_eq_some_iff.mp h
  rw [List.take_succ_eq_append_getElem hi, List.filter_append, e]
  by_cases hk : keep a = true
  · rw [if_pos hk, List.filter_cons_of_pos hk]; rfl
  · rw [if_neg hk, List.filter_cons_of_neg hk]; rfl
theorem lc_sound {xs : List α} {R S : α → Rel} {keep : α → Bool} {elt : Expr} {ifs : List Expr} {scope : Scope} {own : List (Str × Nat)} {Gb : Ctx} {wi : TI} {σ : St} {H : Hp} {Q : VK} (hlen : xs.length ≤ sizeLine)
    (hw : ∀ σ H (Rk : It → Hp → Prop), Same H0 H → Slots X G σ H → (∀ J H1, Same H H1 → ItW J xs R H1 → Rk J H1) → wi σ H Rk) (ok : BlkOk X.N X.env.scope scope own) (hG : CtxBlk scope own G Gb)
    (hb : ∀ a ∈ xs, ∃ G1 ix, (∀ i ∈ ix, i ∈ own.map (·.2)) ∧ (∀ X', InBlk X X' scope → Gv X' H0 Gb tg (R a) G1 ix) ∧ (∀ X', InBlk X X' scope → LcTest X' H0 G1 ifs (keep a)) ∧ (keep a = true → ∀ X', InBlk X X' scope → Ev X' H0 G1 elt (S a)))
    (q : tEv X H0 G (lstR ((xs.filter keep).map S)) σ H Q) : tLc wi (gBlk X scope H0 tg) (tBlk X scope H0 ifs) (eBlk X scope H0 elt) (own.map (·.2)) σ H Q := by
  obtain ⟨g, Sl, q⟩ := q
  refine hw σ H _ g Sl fun J H1 s1 W D hD => ?_
  obtain ⟨Gd, Y, hGd, hGs, wk, hy, hfr⟩ := W
  have sub : ∀ {H' : Hp} {zs : List V}, Same H1 H' → H' D = none → Same H1 (upd H' D (.lst zs)) := fun s hn => s.trans (same_new hn)
  -- between two turns: D holds what was kept so far, all else beside D as the pure part tells
  refine lc_it wk (fun i H' => ∃ (acc : List V) (Hp0 : Hp), Same H1 Hp0 ∧ Hp0 D = none ∧ H' = upd Hp0 D (.lst acc) ∧ Args (((xs.take i).filter keep).map S) acc Hp0) ⟨[], H1, Same.refl _, hD, rfl, by simp [Args]⟩ (fun i H' _ h => ?_) (fun i x H' H2 hi h y => ?_) fun H' h => ?_
  · obtain ⟨acc, Hq, sq, nq, rfl, _⟩ := h
    exact hGs _ (sub sq nq)
  · obtain ⟨acc, Hq, sq, nq, rfl, ra⟩ := h
    obtain ⟨Hr, rfl, nr, y'⟩ := hfr i Hq x H2 D _ nq y
    obtain ⟨s2, a, ea, hra⟩ := hy i Hq x Hr hi sq y'
    obtain ⟨G1, ix, hix, hg, ht, he⟩ := hb a (List.mem_of_getElem? ea)
    have s2' := sq.trans s2
    have ham : a ∈ xs := List.mem_of_getElem? ea
    have one : ∀ {H' : Hp} {zs : List V}, (∀ b ∈ [D], Asd (upd H' D (.lst zs)) [D] b) := fun b hb => by
      rw [List.mem_singleton] at hb
      subst hb
      exact .lst upd_same
    have e1 : ∀ {H' : Hp} {zs : List V}, H' D = none → era (upd H' D (.lst zs)) [D] = H' := fun {H' zs} hn => by
      funext b
      by_cases hb : b = D
      · subst hb; rw [era_in List.mem_cons_self, hn]
      · rw [era_out (by simpa using hb), upd_ne hb]
    have e2 : ∀ {H' H'' : Hp} {zs : List V}, res H' (upd H'' D (.lst zs)) [D] = upd H' D (.lst zs) := fun {H' H'' zs} => by
      funext b
      by_cases hb : b = D
      · subst hb; rw [res_in List.mem_cons_self, upd_same, upd_same]
      · rw [res_out (by simpa using hb), upd_ne hb]
    have nD : ∀ {H' : Hp}, (∀ b ∈ [D], H' b = none) → H' D = none := fun h => h D List.mem_cons_self
    refine ⟨Gb, R a, G1, ix, hg, [D], one, ?_⟩
    rw [e1 nr]
    refine ⟨g.trans (s1.trans s2'), (slots_blk hG ok Sl).up (s1.trans s2'), hra, fun σ3 H3 s3 n3 S3 w3 => ⟨?_, ?_⟩⟩
    · rw [w3 _ hix]
      apply List.ext_getElem?
      intro j
      rw [wipe_get, wipe_get]
      by_cases hj : j ∈ own.map (·.2)
      · rw [if_pos hj, if_pos hj]
        cases σ[j]? <;> rfl
      · rw [if_neg hj, if_neg hj]
    refine ⟨G1, keep a, ht, [D], by rw [e2]; exact one, ?_⟩
    rw [e2, e1 (nD n3)]
    have s3' := s2'.trans s3
    refine ⟨g.trans (s1.trans s3'), S3, fun H4 s4 n4 => ?_⟩
    rw [e2]
    have s4' := s3'.trans s4
    cases hk : keep a with
    | false =>
      refine iteF ⟨acc, H4, s4', nD n4, rfl, ?_⟩
      rw [filter_take ea, if_neg (by rw [hk]; exact Bool.false_ne_true), List.append_nil]
      exact ra.up (s2.trans (s3.trans s4))
    | true =>
      refine iteT ⟨G1, S a, he hk, [D], one, ?_⟩
      rw [e1 (nD n4)]
      refine ⟨g.trans (s1.trans s4'), S3.up s4, fun v H5 s5 n5 r5 => ?_⟩
      rw [e2]
      have hl := ra.length
      have hl2 : ((xs.take i).filter keep).length ≤ i := by
        have := List.length_filter_le keep (xs.take i)
        rw [List.length_take] at this
        omega
      rw [List.length_map] at hl
      refine ⟨acc, upd_same, by omega, acc ++ [v], H5, s4'.trans s5, nD n5, upd_upd, ?_⟩
      rw [filter_take ea, if_pos hk, List.map_append]
      exact (ra.up (s2.trans (s3.trans (s4.trans s5)))).append ⟨r5, trivial⟩
  · obtain ⟨acc, Hq, sq, nq, rfl, ra⟩ := h
    rw [List.take_length] at ra
    exact q _ _ (s1.trans (sub sq nq)) ⟨D, acc, rfl, upd_same, ra.up (same_new nq)⟩
theorem inBlk {scope : Scope} {s : Shared} {H : Hp} {C : Addr} {cl : List (Str × Addr)} {fp : List Addr} : InBlk X (X.blk s H scope (compEnvC scope cl C X.env) fp) scope := ⟨rfl, rfl, rfl, rfl, rfl, rfl, rfl, rfl, rfl⟩
/-- [e for tg in iter if ..] -/
theorem ev_lc {xs : List α} {R S : α → Rel} (keep : α → Bool) {elt : Expr} {ifs : List Expr} {scope : Scope} {own : List (Str × Nat)} {Gb : Ctx} (hc : X.calm = true) (hd : X.N.Nodup) (hi : Pv X H0 G tg iter xs R) (hlen : xs.length ≤ sizeLine) (ok : BlkOk X.N X.env.scope scope own) (hG : CtxBlk scope own G Gb)
    (hb : ∀ a ∈ xs, ∃ G1 ix, (∀ i ∈ ix, i ∈ own.map (·.2)) ∧ (∀ X', InBlk X X' scope → Gv X' H0 Gb tg (R a) G1 ix) ∧ (∀ X', InBlk X X' scope → LcTest X' H0 G1 ifs (keep a)) ∧ (keep a = true → ∀ X', InBlk X X' scope → Ev X' H0 G1 elt (S a)))
    (hs : ∀ x, foldedSetIterable iter X.env x = pure x) : Ev X H0 G (.ListComp elt [⟨tg, iter, ifs, 0⟩] scope pos) (lstR ((xs.filter keep).map S)) := by
  obtain ⟨wi, hpi, hw⟩ := hi
  exact PE_imp (pe_lc hc hd hpi ok (fun _ _ _ _ _ => pg_blk (H0 := H0) inBlk) (fun _ _ _ _ _ => pts_blk (H0 := H0) inBlk) (fun _ _ _ _ _ => pe_blk (H0 := H0) inBlk) hs) fun σ H Q q => lc_sound hlen hw ok hG hb q
/-- y = [e for tg in iter if ..] on one line -/
theorem bv_setLc {xs : List α} {R S : α → Rel} (keep : α → Bool) {elt : Expr} {ifs : List Expr} {scope : Scope} {own : List (Str × Nat)} {Gb : Ctx} {sts : List Stmt} {py spos : Pos} (B : Body X) (hi : Pv X H0 G tg iter xs R) (hlen : xs.length ≤ sizeLine) (ok : BlkOk X.N X.env.scope scope own) (hG : CtxBlk scope own G Gb)
    (hb : ∀ a ∈ xs, ∃ G1 ix, (∀ i ∈ ix, i ∈ own.map (·.2)) ∧ (∀ X', InBlk X X' scope → Gv X' H0 Gb tg (R a) G1 ix) ∧ (∀ X', InBlk X X' scope → LcTest X' H0 G1 ifs (keep a)) ∧ (keep a = true → ∀ X', InBlk X X' scope → Ev X' H0 G1 elt (S a)))
    (c : SetCtx x (some (lstR ((xs.filter keep).map S))) G G1 i) (h2 : Bv X H0 G1 sts G' Rr) (hyl : X.env.scope.names.lookup x = some .local) (hsw : swapsWith (.ListComp elt [⟨tg, iter, ifs, 0⟩] scope pos) (some (.Name x py)) spos.line X.env = pure true) (hs : ∀ x, foldedSetIterable iter X.env x = pure x) :
    Bv X H0 G (.Assign [.Name x py] (.ListComp elt [⟨tg, iter, ifs, 0⟩] scope pos) spos :: sts) G' Rr := by
  obtain ⟨wi, hpi, hw⟩ := hi
  refine bv_cons (G1 := G1) ?_ h2
  by_cases hN : X.N = G.map (·.1)
  · have hy : X.N[i]? = some x := by rw [hN]; exact c.name
    refine PS_imp (ps_setLc B.calm B.nd hy hyl hsw hpi ok (fun _ _ _ _ _ => pg_blk (H0 := H0) inBlk) (fun _ _ _ _ _ => pts_blk (H0 := H0) inBlk) (fun _ _ _ _ _ => pe_blk (H0 := H0) inBlk) hs) fun D σ H q => ?_
    obtain ⟨g, Sl, qn, q⟩ := q
    exact lc_sound (Q := fun v H1 => gName i v σ H1 D.nx) hlen hw ok hG hb ⟨g, Sl, fun v H' s r => qn _ _ _ rfl s (Slots.set (.inl hyl) c (Sl.up s) r)⟩
  · exact PS_imp ps_never fun D σ H q => hN q.2.1.1
end
end Fk

/-! told parts: plain math -/
namespace Fk
open PySem L2
inductive Told where
  | num (i : Int)
  | node (a : Int) (l r : Told)
  deriving DecidableEq
/-! ### the number at a place: a place is an endless row of turns -/
abbrev Pl := Nat → Bool
def Pl.shift (p : Pl) : Pl := fun n => p (n + 1)
def pcons (b : Bool) (p : Pl) : Pl := fun n => match n with | 0 => b | n + 1 => p n
@[simp] theorem shift_pcons (b : Bool) (p : Pl) : Pl.shift (pcons b p) = p := rfl
@[simp] theorem pcons_0 (b : Bool) (p : Pl) : pcons b p 0 = b := rfl
namespace Told
def depth : Told → Nat
  | num _ => 0
  | node _ l r => max l.depth r.depth + 1
def isNode : Told → Bool
  | num _ => false
  | node _ _ _ => true
def base : Told → Int
  | num i => i
  | node a _ _ => a
def lift (m : Int) : Told → Told
  | num i => num (i + m)
  | node a l r => node (a + m) l r
def spread (n : Int) (l r : Told) : Told := if l = r ∧ l.isNode = false then num (n + l.base) else node (n + min l.base r.base) (l.lift (-(min l.base r.base))) (r.lift (-(min l.base r.base)))
def least : Told → Told
  | num i => num i
  | node a l r => spread a l.least r.least
def greatest : Told → Int
  | num i => i
  | node a l r => a + max l.greatest r.greatest
def left : Told → Told
  | num i => num i
  | node a l _ => l.lift a
def right : Told → Told
  | num i => num i
  | node a _ r => r.lift a
/-- never less than nothing -/
def nn : Told → Bool
  | num i => decide (0 ≤ i)
  | node a l r => decide (0 ≤ a) && l.nn && r.nn
@[simp] theorem lift_depth (m : Int) (t : Told) : (t.lift m).depth = t.depth := by cases t <;> rfl
@[simp] theorem lift_isNode (m : Int) (t : Told) : (t.lift m).isNode = t.isNode := by cases t <;> rfl
@[simp] theorem lift_base (m : Int) (t : Told) : (t.lift m).base = t.base + m := by cases t <;> rfl
theorem lift_inj {m : Int} {s t : Told} (h : s.lift m = t.lift m) : s = t := by
  cases s <;> cases t <;> simp [lift] at h ⊢ <;> first | omega | exact ⟨by omega, h.2⟩
theorem spread_depth (n : Int) (l r : Told) : (spread n l r).depth ≤ max l.depth r.depth + 1 := by
  unfold spread
  split
  · exact Nat.zero_le _
  · simp [depth]
theorem least_depth : ∀ t : Told, t.least.depth ≤ t.depth
  | num _ => Nat.le_refl _
  | node a l r => by
    have h := spread_depth a l.least r.least
    have h1 := least_depth l
    have h2 := least_depth r
    simp only [least, depth]
    omega
theorem left_depth (t : Told) : t.left.depth ≤ t.depth - 1 := by cases t <;> simp [left, depth]; omega
theorem right_depth (t : Told) : t.right.depth ≤ t.depth - 1 := by cases t <;> simp [right, depth]; omega
def T : Told → Pl → Int
  | num i, _ => i
  | node a l r, p => a + if p 0 then r.T p.shift else l.T p.shift
@[simp] theorem T_num (i : Int) (p : Pl) : (num i).T p = i := rfl
@[simp] theorem T_node (a : Int) (l r : Told) (p : Pl) : (node a l r).T p = a + if p 0 then r.T p.shift else l.T p.shift := rfl
@[simp] theorem T_lift (m : Int) (t : Told) (p : Pl) : (t.lift m).T p = t.T p + m := by
  cases t
  · rfl
  · simp [lift]; omega
/-- in its least form -/
def Norm : Told → Prop
  | num _ => True
  | node _ l r => l.Norm ∧ r.Norm ∧ min l.base r.base = 0 ∧ ¬ (l = r ∧ l.isNode = false)
theorem norm_lift {m : Int} {t : Told} (h : t.Norm) : (t.lift m).Norm := by cases t <;> exact h
theorem norm_spread {n : Int} {l r : Told} (hl : l.Norm) (hr : r.Norm) : (spread n l r).Norm := by
  unfold spread
  split
  · trivial
  · rename_i h
    refine ⟨norm_lift hl, norm_lift hr, by simp; omega, fun q => h ?_⟩
    exact ⟨lift_inj q.1, by simpa using q.2⟩
theorem norm_least : ∀ t : Told, t.least.Norm
  | num _ => trivial
  | node _ l r => norm_spread (norm_least l) (norm_least r)
theorem T_spread (n : Int) (l r : Told) (p : Pl) : (spread n l r).T p = n + if p 0 then r.T p.shift else l.T p.shift := by
  unfold spread
  split
  · rename_i h
    obtain ⟨rfl, h⟩ := h
    cases l with
    | num i => simp [base]
    | node => cases h
  · simp only [T_node, T_lift]
    split <;> omega
theorem T_least : ∀ (t : Told) (p : Pl), t.least.T p = t.T p
  | num _, _ => rfl
  | node a l r, p => by
    show (spread a l.least r.least).T p = _
    rw [T_spread, T_least l, T_least r]
    rfl
theorem norm_left {t : Told} (h : t.Norm) : t.left.Norm := by
  cases t
  · trivial
  · exact norm_lift h.1
theorem norm_right {t : Told} (h : t.Norm) : t.right.Norm := by
  cases t
  · trivial
  · exact norm_lift h.2.1
theorem T_left (t : Told) (p : Pl) : t.left.T p = t.T (pcons false p) := by cases t <;> simp [left]; omega
theorem T_right (t : Told) (p : Pl) : t.right.T p = t.T (pcons true p) := by cases t <;> simp [right]; omega
theorem base_le : ∀ {t : Told}, t.Norm → ∀ p, t.base ≤ t.T p
  | num _, _, _ => Int.le_refl _
  | node a l r, h, p => by
    have h1 := base_le h.1 p.shift
    have h2 := base_le h.2.1 p.shift
    have h3 := h.2.2.1
    show a ≤ a + if p 0 then r.T p.shift else l.T p.shift
    split <;> omega
theorem base_at : ∀ {t : Told}, t.Norm → ∃ p, t.T p = t.base
  | num _, _ => ⟨fun _ => false, rfl⟩
  | node a l r, h => by
    obtain ⟨p, hp⟩ := base_at h.1
    obtain ⟨q, hq⟩ := base_at h.2.1
    have h3 := h.2.2.1
    by_cases hm : l.base ≤ r.base
    · exact ⟨pcons false p, by
        have e : (node a l r).T (pcons false p) = a + l.base := by simp [hp]
        rw [e]
        show a + l.base = a
        omega⟩
    · exact ⟨pcons true q, by
        have e : (node a l r).T (pcons true q) = a + r.base := by simp [hq]
        rw [e]
        show a + r.base = a
        omega⟩
theorem le_greatest : ∀ (t : Told) (p : Pl), t.T p ≤ t.greatest
  | num _, _ => Int.le_refl _
  | node a l r, p => by
    have h1 := le_greatest l p.shift
    have h2 := le_greatest r p.shift
    show a + (if p 0 then r.T p.shift else l.T p.shift) ≤ a + max l.greatest r.greatest
    split <;> omega
theorem greatest_at : ∀ t : Told, ∃ p, t.T p = t.greatest
  | num _ => ⟨fun _ => false, rfl⟩
  | node a l r => by
    obtain ⟨p, hp⟩ := greatest_at l
    obtain ⟨q, hq⟩ := greatest_at r
    by_cases hm : r.greatest ≤ l.greatest
    · exact ⟨pcons false p, by simp [hp, greatest]; omega⟩
    · exact ⟨pcons true q, by simp [hq, greatest]; omega⟩
theorem norm_const : ∀ {t : Told} {i : Int}, t.Norm → (∀ p, t.T p = i) → t = num i
  | num j, i, _, h => by rw [show j = i from h fun _ => false]
  | node a l r, i, n, h => by
    have hl : l = num (i - a) := norm_const n.1 fun p => by
      have q := h (pcons false p)
      simp at q
      omega
    have hr : r = num (i - a) := norm_const n.2.1 fun p => by
      have q := h (pcons true p)
      simp at q
      omega
    exact absurd ⟨hl.trans hr.symm, by rw [hl]; rfl⟩ n.2.2.2
/-- what tells the same, in the least form, is the same -/
theorem uniq : ∀ {s t : Told}, s.Norm → t.Norm → (∀ p, s.T p = t.T p) → s = t
  | num i, t, _, nt, h => (norm_const nt fun p => (h p).symm).symm
  | node a l r, num j, ns, _, h => norm_const ns h
  | node a l r, node b l' r', ns, nt, h => by
    have e : a = b := by
      obtain ⟨p, hp⟩ := base_at ns
      obtain ⟨q, hq⟩ := base_at nt
      have h1 := base_le nt p
      have h2 := base_le ns q
      rw [← h] at h1
      rw [h] at h2
      simp only [base] at *
      omega
    subst e
    have hl : l = l' := uniq ns.1 nt.1 fun p => by
      have q := h (pcons false p)
      simp at q
      omega
    have hr : r = r' := uniq ns.2.1 nt.2.1 fun p => by
      have q := h (pcons true p)
      simp at q
      omega
    rw [hl, hr]
theorem least_norm {t : Told} (h : t.Norm) : t.least = t := uniq (norm_least t) h (T_least t)
theorem least_least (t : Told) : t.least.least = t.least := least_norm (norm_least t)
/-! ### never less than nothing -/
theorem nn_base {t : Told} (h : t.nn = true) : 0 ≤ t.base := by
  cases t <;> simp [nn] at h <;> simp [base]
  · exact h
  · exact h.1.1
theorem nn_lift {m : Int} {t : Told} (h : t.nn = true) (hm : 0 ≤ t.base + m) : (t.lift m).nn = true := by
  cases t <;> simp [nn, lift, base] at *
  · exact hm
  · exact ⟨⟨hm, h.1.2⟩, h.2⟩
theorem nn_spread {n : Int} {l r : Told} (hn : 0 ≤ n) (hl : l.nn = true) (hr : r.nn = true) : (spread n l r).nn = true := by
  have h1 := nn_base hl
  have h2 := nn_base hr
  unfold spread
  split
  · simp [nn]; omega
  · simp only [nn, Bool.and_eq_true, decide_eq_true_eq]
    exact ⟨⟨by omega, nn_lift hl (by omega)⟩, nn_lift hr (by omega)⟩
theorem nn_least : ∀ {t : Told}, t.nn = true → t.least.nn = true
  | num _, h => h
  | node a l r, h => by
    simp only [nn, Bool.and_eq_true, decide_eq_true_eq] at h
    exact nn_spread h.1.1 (nn_least h.1.2) (nn_least h.2)
end Told
/-! ### the numbers at the places by so many halvings -/
def tvals : Nat → Told → List Int
  | 0, t => [t.base]
  | d + 1, .num i => tvals d (.num i) ++ tvals d (.num i)
  | d + 1, .node a l r => (tvals d l ++ tvals d r).map (a + ·)
theorem tvals_length : ∀ (d : Nat) (t : Told), (tvals d t).length = 2 ^ d
  | 0, _ => rfl
  | d + 1, .num i => by simp [tvals, tvals_length d, Nat.pow_succ]; omega
  | d + 1, .node a l r => by simp [tvals, tvals_length d, Nat.pow_succ]; omega
/-- what a row of numbers tells at a place -/
def rd : Nat → List Int → Pl → Int
  | 0, ns, _ => ns.headD 0
  | d + 1, ns, p => if p 0 then rd d (ns.drop (2 ^ d)) p.shift else rd d (ns.take (2 ^ d)) p.shift
theorem rd_tvals : ∀ (d : Nat) (t : Told) (p : Pl), t.depth ≤ d → rd d (tvals d t) p = t.T p
  | 0, .num i, p, _ => rfl
  | 0, .node _ _ _, _, h => by simp [Told.depth] at h
  | d + 1, .num i, p, _ => by
    have l := tvals_length d (.num i)
    simp only [rd, tvals, List.drop_left' l, List.take_left' l]
    rw [rd_tvals d (.num i) _ (Nat.zero_le _)]
    simp
  | d + 1, .node a l r, p, h => by
    have hl := tvals_length d l
    simp only [Told.depth] at h
    simp only [rd, tvals, List.map_append]
    rw [List.drop_left' (by rw [List.length_map, hl]), List.take_left' (by rw [List.length_map, hl]), Told.T_node]
    have e : ∀ (s : Told) (q : Pl), s.depth ≤ d → rd d ((tvals d s).map (a + ·)) q = a + s.T q := fun s q hs => by
      rw [← rd_tvals d s q hs]
      have go : ∀ (d : Nat) (ns : List Int) (q : Pl), ns.length = 2 ^ d → rd d (ns.map (a + ·)) q = a + rd d ns q := by
        intro d
        induction d with
        | zero =>
          intro ns q h
          match ns, h with
          | [n], _ => rfl
        | succ d ih =>
          intro ns q h
          rw [Nat.pow_succ] at h
          simp only [rd, ← List.map_drop, ← List.map_take]
          rw [ih _ _ (by rw [List.length_drop]; omega), ih _ _ (by rw [List.length_take]; omega)]
          split <;> rfl
      exact go d _ q (tvals_length d s)
    rw [e l _ (by omega), e r _ (by omega)]
    split <;> rfl
theorem rd_map (f : Int → Int) : ∀ (d : Nat) (ns : List Int) (q : Pl), ns.length = 2 ^ d → rd d (ns.map f) q = f (rd d ns q)
  | 0, [n], _, _ => rfl
  | 0, [], _, h => by simp at h
  | 0, _ :: _ :: _, _, h => by simp at h
  | d + 1, ns, q, h => by
    rw [Nat.pow_succ] at h
    simp only [rd, ← List.map_drop, ← List.map_take]
    rw [rd_map f d _ _ (by rw [List.length_drop]; omega), rd_map f d _ _ (by rw [List.length_take]; omega)]
    split <;> rfl
theorem rd_zip (f : Int → Int → Int) : ∀ (d : Nat) (ns ms : List Int) (q : Pl), ns.length = 2 ^ d → ms.length = 2 ^ d → rd d ((ns.zip ms).map fun x => f x.1 x.2) q = f (rd d ns q) (rd d ms q)
  | 0, [n], [m], _, _, _ => rfl
  | 0, [], _, _, h, _ => by simp at h
  | 0, _ :: _ :: _, _, _, h, _ => by simp at h
  | 0, [_], [], _, _, h => by simp at h
  | 0, [_], _ :: _ :: _, _, _, h => by simp at h
  | d + 1, ns, ms, q, h, h' => by
    rw [Nat.pow_succ] at h h'
    simp only [rd, ← List.map_drop, ← List.map_take, List.zip_eq_zipWith, List.drop_zipWith, List.take_zipWith]
    simp only [← List.zip_eq_zipWith]
    rw [rd_zip f d _ _ _ (by rw [List.length_drop]; omega) (by rw [List.length_drop]; omega), rd_zip f d _ _ _ (by rw [List.length_take]; omega) (by rw [List.length_take]; omega)]
    split <;> rfl
theorem rd_mem : ∀ (d : Nat) (ns : List Int) (q : Pl), ns.length = 2 ^ d → rd d ns q ∈ ns
  | 0, [n], _, _ => by simp [rd]
  | 0, [], _, h => by simp at h
  | 0, _ :: _ :: _, _, h => by simp at h
  | d + 1, ns, q, h => by
    rw [Nat.pow_succ] at h
    simp only [rd]
    split
    · exact List.mem_of_mem_drop (rd_mem d _ _ (by rw [List.length_drop]; omega))
    · exact List.mem_of_mem_take (rd_mem d _ _ (by rw [List.length_take]; omega))
theorem mem_rd : ∀ (d : Nat) (ns : List Int) (x : Int), ns.length = 2 ^ d → x ∈ ns → ∃ q, rd d ns q = x
  | 0, [n], x, _, h => by simp at h; subst h; exact ⟨fun _ => false, rfl⟩
  | 0, [], _, h, _ => by simp at h
  | 0, _ :: _ :: _, _, h, _ => by simp at h
  | d + 1, ns, x, h, hx => by
    rw [Nat.pow_succ] at h
    rw [← List.take_append_drop (2 ^ d) ns, List.mem_append] at hx
    rcases hx with hx | hx
    · obtain ⟨q, e⟩ := mem_rd d _ x (by rw [List.length_take]; omega) hx
      exact ⟨pcons false q, by simp [rd, e]⟩
    · obtain ⟨q, e⟩ := mem_rd d _ x (by rw [List.length_drop]; omega) hx
      exact ⟨pcons true q, by simp [rd, e]⟩
theorem rd_ext : ∀ (d : Nat) (ns ms : List Int), ns.length = 2 ^ d → ms.length = 2 ^ d → (∀ q, rd d ns q = rd d ms q) → ns = ms
  | 0, [n], [m], _, _, h => by rw [show n = m from h fun _ => false]
  | 0, [], _, h, _, _ => by simp at h
  | 0, _ :: _ :: _, _, h, _, _ => by simp at h
  | 0, [_], [], _, h, _ => by simp at h
  | 0, [_], _ :: _ :: _, _, h, _ => by simp at h
  | d + 1, ns, ms, h1, h2, h => by
    rw [Nat.pow_succ] at h1 h2
    rw [← List.take_append_drop (2 ^ d) ns, ← List.take_append_drop (2 ^ d) ms]
    rw [rd_ext d (ns.take (2 ^ d)) (ms.take (2 ^ d)) (by rw [List.length_take]; omega) (by rw [List.length_take]; omega) fun q => by simpa [rd] using h (pcons false q)]
    rw [rd_ext d (ns.drop (2 ^ d)) (ms.drop (2 ^ d)) (by rw [List.length_drop]; omega) (by rw [List.length_drop]; omega) fun q => by simpa [rd] using h (pcons true q)]
/-- the least told part of a row of numbers -/
def toldOf : Nat → List Int → Told
  | 0, ns => .num (lmin ns)
  | d + 1, ns => if ns.count (lmin ns) = ns.length then .num (lmin ns) else
    .node (lmin ns) (toldOf d ((ns.map (· - lmin ns)).take (ns.length / 2))) (toldOf d ((ns.map (· - lmin ns)).drop (ns.length / 2)))
theorem toldOf_depth : ∀ (d : Nat) (ns : List Int), (toldOf d ns).depth ≤ d
  | 0, _ => Nat.le_refl _
  | d + 1, ns => by
    unfold toldOf
    split
    · exact Nat.zero_le _
    · have h1 := toldOf_depth d ((ns.map (· - lmin ns)).take (ns.length / 2))
      have h2 := toldOf_depth d ((ns.map (· - lmin ns)).drop (ns.length / 2))
      simp only [Told.depth]
      omega
theorem ne_of_pow {d : Nat} {ns : List Int} (h : ns.length = 2 ^ d) : ns ≠ [] := by
  rintro rfl
  have : 0 < 2 ^ d := Nat.pow_pos (by decide)
  simp at h
  omega
theorem T_toldOf : ∀ (d : Nat) (ns : List Int) (p : Pl), ns.length = 2 ^ d → (toldOf d ns).T p = rd d ns p
  | 0, [n], _, _ => rfl
  | 0, [], _, h => by simp at h
  | 0, _ :: _ :: _, _, h => by simp at h
  | d + 1, ns, p, h => by
    have hh : ns.length / 2 = 2 ^ d := by rw [h, Nat.pow_succ]; omega
    have h' := h
    rw [Nat.pow_succ] at h'
    unfold toldOf
    split
    · rename_i hc
      have e := List.count_eq_length.mp hc
      exact (e _ (rd_mem (d + 1) ns p h)).symm ▸ rfl
    · simp only [Told.T_node, hh]
      rw [T_toldOf d ((ns.map (· - lmin ns)).take (2 ^ d)) _ (by rw [List.length_take, List.length_map]; omega), T_toldOf d ((ns.map (· - lmin ns)).drop (2 ^ d)) _ (by rw [List.length_drop, List.length_map]; omega)]
      simp only [← List.map_drop, ← List.map_take]
      rw [rd_map _ d _ _ (by rw [List.length_drop]; omega), rd_map _ d _ _ (by rw [List.length_take]; omega)]
      simp only [rd]
      split <;> omega
theorem norm_toldOf : ∀ (d : Nat) (ns : List Int), ns.length = 2 ^ d → (toldOf d ns).Norm
  | 0, _, _ => trivial
  | d + 1, ns, h => by
    have hh : ns.length / 2 = 2 ^ d := by rw [h, Nat.pow_succ]; omega
    have h' := h
    rw [Nat.pow_succ] at h'
    unfold toldOf
    split
    · trivial
    · rename_i hc
      have l1 : ((ns.map (· - lmin ns)).take (ns.length / 2)).length = 2 ^ d := by rw [List.length_take, List.length_map]; omega
      have l2 : ((ns.map (· - lmin ns)).drop (ns.length / 2)).length = 2 ^ d := by rw [List.length_drop, List.length_map]; omega
      have n1 := norm_toldOf d _ l1
      have n2 := norm_toldOf d _ l2
      have hmin : ∀ x ∈ ns.map (· - lmin ns), 0 ≤ x := fun x hx => by
        obtain ⟨y, hy, rfl⟩ := List.mem_map.mp hx
        have := lmin_le hy
        show 0 ≤ y - lmin ns
        omega
      have b1 : 0 ≤ (toldOf d ((ns.map (· - lmin ns)).take (ns.length / 2))).base := by
        obtain ⟨p, hp⟩ := Told.base_at n1
        rw [← hp, T_toldOf d _ _ l1]
        exact hmin _ (List.mem_of_mem_take (rd_mem d _ _ l1))
      have b2 : 0 ≤ (toldOf d ((ns.map (· - lmin ns)).drop (ns.length / 2))).base := by
        obtain ⟨p, hp⟩ := Told.base_at n2
        rw [← hp, T_toldOf d _ _ l2]
        exact hmin _ (List.mem_of_mem_drop (rd_mem d _ _ l2))
      refine ⟨n1, n2, ?_, fun q => hc ?_⟩
      · have hz : (0 : Int) ∈ ns.map (· - lmin ns) := List.mem_map.mpr ⟨lmin ns, lmin_mem (ne_of_pow h), by omega⟩
        rw [← List.take_append_drop (ns.length / 2) (ns.map (· - lmin ns)), List.mem_append] at hz
        rcases hz with hz | hz
        · obtain ⟨q, e⟩ := mem_rd d _ _ l1 hz
          have := Told.base_le n1 q
          rw [T_toldOf d _ _ l1, e] at this
          omega
        · obtain ⟨q, e⟩ := mem_rd d _ _ l2 hz
          have := Told.base_le n2 q
          rw [T_toldOf d _ _ l2, e] at this
          omega
      · obtain ⟨e, hn⟩ := q
        cases ec : toldOf d ((ns.map (· - lmin ns)).take (ns.length / 2)) with
        | node a l r => rw [ec] at hn; cases hn
        | num i =>
          rw [List.count_eq_length]
          have all : ∀ x ∈ ns.map (· - lmin ns), x = i := fun x hx => by
            rw [← List.take_append_drop (ns.length / 2) (ns.map (· - lmin ns)), List.mem_append] at hx
            rcases hx with hx | hx
            · obtain ⟨q, eq⟩ := mem_rd d _ _ l1 hx
              rw [← eq, ← T_toldOf d _ _ l1, ec]
              rfl
            · obtain ⟨q, eq⟩ := mem_rd d _ _ l2 hx
              rw [← eq, ← T_toldOf d _ _ l2, ← e, ec]
              rfl
          have iz := all _ (List.mem_map.mpr ⟨lmin ns, lmin_mem (ne_of_pow h), rfl⟩)
          intro x hx
          have := all _ (List.mem_map.mpr ⟨x, hx, rfl⟩)
          omega
theorem toldOf_tvals (d : Nat) (t : Told) (h : t.depth ≤ d) : toldOf d (tvals d t) = t.least :=
  Told.uniq (norm_toldOf d _ (tvals_length d t)) (Told.norm_least t) fun p => by rw [T_toldOf d _ _ (tvals_length d t), rd_tvals d t p h, Told.T_least]
theorem base_least (d : Nat) (t : Told) (h : t.depth ≤ d) : t.least.base = lmin (tvals d t) := by
  have hl := tvals_length d t
  obtain ⟨p, hp⟩ := Told.base_at (Told.norm_least t)
  rw [Told.T_least, ← rd_tvals d t p h] at hp
  have h1 := lmin_le (rd_mem d _ p hl)
  obtain ⟨q, hq⟩ := mem_rd d _ _ hl (lmin_mem (ne_of_pow hl))
  have h2 := Told.base_le (Told.norm_least t) q
  rw [Told.T_least, ← rd_tvals d t q h, hq] at h2
  omega
theorem greatest_least (d : Nat) (t : Told) (h : t.depth ≤ d) : t.least.greatest = lmax (tvals d t) := by
  have hl := tvals_length d t
  obtain ⟨p, hp⟩ := Told.greatest_at t.least
  rw [Told.T_least, ← rd_tvals d t p h] at hp
  have h1 := lmax_ge (rd_mem d _ p hl)
  obtain ⟨q, hq⟩ := mem_rd d _ _ hl (lmax_mem (ne_of_pow hl))
  have h2 := Told.le_greatest t.least q
  rw [Told.T_least, ← rd_tvals d t q h, hq] at h2
  omega
end Fk

/-! told parts in the logic; comprehensions over lists of ints -/
namespace Fk
open PySem L2
namespace Told
def dat : Told → PyData
  | num i => .int i
  | node a l r => .tuple [.int a, l.dat, r.dat]
theorem dat_depth : ∀ t : Told, t.dat.depth = t.depth
  | num _ => by simp [dat, PyData.depth, depth]
  | node _ l r => by simp [dat, PyData.depth, PyData.depthAll, depth, dat_depth l, dat_depth r]
theorem dat_lay : ∀ t : Told, t.dat.canLay0 = true
  | num _ => by simp [dat, PyData.canLay0]
  | node _ l r => by simp [dat, PyData.canLay0, PyData.canLayAll0, dat_lay l, dat_lay r]
theorem shaped {t : Told} (h : t.depth ≤ 64) : SeqAt.shaped t.dat = true := by
  unfold SeqAt.shaped
  rw [dat_lay, dat_depth, decide_eq_true h]
  rfl
theorem eqv : ∀ a b : Told, PyData.eqv a.dat b.dat = decide (a = b)
  | num a, num b => by simp only [dat, PyData.eqv, num.injEq, Bool.beq_eq_decide_eq]
  | num a, node _ l r => by simp [dat, PyData.eqv]
  | node _ l r, num a => by simp [dat, PyData.eqv]
  | node a l r, node a' l' r' => by
    simp only [dat, PyData.eqv, PyData.eqvAll, eqv l l', eqv r r', node.injEq, Bool.and_true]
    by_cases h0 : a = a' <;> by_cases h1 : l = l' <;> by_cases h2 : r = r' <;> simp [h0, h1, h2]
def th : Told → Th
  | num i => .int i
  | node a l r => .tri (.int a) l.th r.th
theorem th_depth : ∀ t : Told, t.th.depth = t.depth
  | num _ => rfl
  | node _ l r => by simp [Told.th, Th.depth, Told.depth, th_depth l, th_depth r]
end Told
def ToldP : Told → V → Hp → Prop
  | .num i, v, _ => v = .int i
  | .node a l r, v, H => ∃ b vl vr, v = .ref b ∧ H b = some (.tup [.int a, vl, vr]) ∧ ToldP l vl H ∧ ToldP r vr H
theorem ToldP.up : ∀ {t : Told} {v : V} {H H' : Hp}, Same H H' → ToldP t v H → ToldP t v H'
  | .num _, _, _, _, _, h => h
  | .node _ _ _, _, _, _, s, ⟨a, vl, vr, e, h, hl, hr⟩ => ⟨a, vl, vr, e, s _ _ h, ToldP.up s hl, ToldP.up s hr⟩
def toldR (t : Told) : Rel := ⟨ToldP t, fun s h => h.up s⟩
theorem told_dat {K : PySem.W.Frag} : ∀ (t : Told), DatIs K (toldR t) t.dat
  | .num b, v, H, h => by
    cases h
    exact .int _
  | .node a l r, v, H, h => by
    obtain ⟨b, vl, vr, rfl, h, hl, hr⟩ := h
    exact .tup (SqT.of h) (.cons (.int a) (.cons (told_dat l _ _ hl) (.cons (told_dat r _ _ hr) .nil)))
theorem le_told {a b : Told} (h : a = b) : (toldR a).le (toldR b) := by subst h; exact Rel.le.refl _
theorem le_tnum {i : Int} : (intR i).le (toldR (.num i)) := fun _ _ h => h
theorem le_numI {i : Int} : (toldR (.num i)).le (intR i) := fun _ _ h => h
theorem le_toldT {Ra Rb Rc : Rel} {a : Int} {l r : Told} (ha : Ra.le (intR a)) (hb : Rb.le (toldR l)) (hc : Rc.le (toldR r)) : (tupR [Ra, Rb, Rc]).le (toldR (.node a l r)) := fun v H h => by
  obtain ⟨p, vs, rfl, h, hs⟩ := h
  obtain ⟨va, vl, vr, rfl, h1, h2, h3⟩ := hs.three
  have e : va = V.int a := ha _ _ h1
  subst e
  exact ⟨p, vl, vr, rfl, h, hb _ _ h2, hc _ _ h3⟩
theorem told_tup {a : Int} {l r : Told} : (toldR (.node a l r)).le (tupR [intR a, toldR l, toldR r]) := fun v H h => by
  obtain ⟨p, vl, vr, rfl, h, hl, hr⟩ := h
  exact ⟨p, [.int a, vl, vr], rfl, h, rfl, hl, hr, trivial⟩
theorem Told.th_P : ∀ (t : Told) (v : V) (H : Hp), ThP t.th v H ↔ ToldP t v H
  | .num _, _, _ => Iff.rfl
  | .node a l r, v, H => by
    constructor
    · rintro ⟨p, vb, vl, vr, e, h, hb, hl, hr⟩
      have e2 : vb = V.int a := hb
      subst e2
      exact ⟨p, vl, vr, e, h, (Told.th_P l _ _).mp hl, (Told.th_P r _ _).mp hr⟩
    · rintro ⟨p, vl, vr, e, h, hl, hr⟩
      exact ⟨p, .int a, vl, vr, e, h, rfl, (Told.th_P l _ _).mpr hl, (Told.th_P r _ _).mpr hr⟩
theorem th_told {t : Told} : (thR t.th).le (toldR t) := fun v H h => (t.th_P v H).mp h
theorem told_th {t : Told} : (toldR t).le (thR t.th) := fun v H h => (t.th_P v H).mpr h
section
variable {X : Cx} {t s l r : Told} {a i j : Int}
theorem ix_toldA : IxOk X (toldR (.node a l r)) (intR 0) (intR a) := (ix_tupR (Rs := [intR a, toldR l, toldR r]) (n := 0) rfl rfl).le told_tup
theorem ix_toldL : IxOk X (toldR (.node a l r)) (intR 1) (toldR l) := (ix_tupR (Rs := [intR a, toldR l, toldR r]) (n := 1) rfl rfl).le told_tup
theorem ix_toldR : IxOk X (toldR (.node a l r)) (intR 2) (toldR r) := (ix_tupR (Rs := [intR a, toldR l, toldR r]) (n := 2) rfl rfl).le told_tup
theorem ty_told {K : PySem.W.Frag} (t : Told) : TyIs K (toldR t) (if t.isNode then "tuple" else "int") := by
  cases t with
  | num b => exact fun v H h => by cases h; exact .base (.int _)
  | node a l r => exact fun v H h => by obtain ⟨p, vl, vr, rfl, h, _⟩ := h; exact .base (.tup h)
theorem isi_told_tup (hm : X.mg "isinstance" = none) : CallB X "isinstance" [toldR t, tyR "tuple"] (blR t.isNode) := by
  refine cb_isi hm (ty_told t) ?_
  cases t with
  | num b => exact kb_int_tuple
  | node a l r => exact kb_tuple_tuple
theorem isi_int_tup (hm : X.mg "isinstance" = none) : CallB X "isinstance" [intR i, tyR "tuple"] (blR false) := cb_isi hm ty_int kb_int_tuple
theorem eq_told (hu : X.A.units + 64 < cLine) (ha : s.depth ≤ 64) (hb : t.depth ≤ 64) : Op2 X (compareOp .Eq) (toldR s) (toldR t) (blR (decide (s = t))) := o_eqD hu (told_dat s) (told_dat t) (Told.shaped ha) (Told.shaped hb) (Told.eqv s t)
theorem ne_told (hu : X.A.units + 64 < cLine) (ha : s.depth ≤ 64) (hb : t.depth ≤ 64) : Op2 X (compareOp .NotEq) (toldR s) (toldR t) (blR (!decide (s = t))) := o_neD hu (told_dat s) (told_dat t) (Told.shaped ha) (Told.shaped hb) (Told.eqv s t)
theorem eq_toldI (hu : X.A.units + 64 < cLine) (ha : s.depth ≤ 64) : Op2 X (compareOp .Eq) (toldR s) (intR i) (blR (decide (s = .num i))) := (eq_told hu ha (Nat.zero_le _)).le (.refl _) le_tnum
theorem o_addIT : Op2 X (binaryOp .Add) (intR i) (toldR (.num j)) (intR (i + j)) := o_add.le (.refl _) le_numI
theorem o_addTI : Op2 X (binaryOp .Add) (toldR (.num i)) (intR j) (intR (i + j)) := o_add.le le_numI (.refl _)
theorem o_leIT : Op2 X (compareOp .LtE) (intR i) (toldR (.num j)) (blR (decide (i ≤ j))) := o_le.le (.refl _) le_numI
theorem o_leTI : Op2 X (compareOp .LtE) (toldR (.num i)) (intR j) (blR (decide (i ≤ j))) := o_le.le le_numI (.refl _)
theorem cb_max2T (hm : X.mg "max" = none) (hc : X.calm = true) : CallB X "max" [toldR (.num i), toldR (.num j)] (intR (max i j)) := (cb_max2 hm hc).le (.cons le_numI (.cons le_numI .nil))
/-- one of two numbers -/
theorem ix_two {k : Int} (h0 : 0 ≤ k) (h1 : k ≤ 1) : IxOk X (lstR [intR i, intR j]) (intR k) (intR (if k = 0 then i else j)) := by
  have h : k = 0 ∨ k = 1 := by omega
  rcases h with rfl | rfl
  · exact ix_lstR (n := 0) rfl rfl
  · exact ix_lstR (n := 1) rfl rfl
end
/-! ### [e for x in a list of ints] -/
def blkB (N : List Str) (sc scope : Scope) (own : List (Str × Nat)) : Bool :=
  decide (scope.kind = .function) && (scope.names.all fun y => decide (scope.names.lookup y.1 = some y.2)) && (own.all fun p => decide (N[p.2]? = some p.1)) &&
  (scope.names.all fun y => decide (y.2 = .free → sc.names.lookup y.1 = some .cell ∨ sc.names.lookup y.1 = some .free)) &&
  (scope.names.all fun y => decide (y.2 = .local ∨ y.2 = .cell → y.1 ∈ own.map (·.1) ∨ y.1 ∉ N))
theorem blk_of {X : Cx} {N : List Str} {sc scope : Scope} {own : List (Str × Nat)} (hN : X.N = N) (hs : X.env.scope = sc) (h : blkB N sc scope own = true) : BlkOk X.N X.env.scope scope own := by
  subst hN hs
  unfold blkB at h
  simp only [Bool.and_eq_true, List.all_eq_true, decide_eq_true_eq] at h
  exact ⟨h.1.1.1.1, h.1.1.1.2, h.1.1.2, h.1.2, h.2⟩
section
variable {X : Cx} {H0 : Hp} {G Gb : Ctx} {G' : Option Ctx} {Rr : Rel} {iter elt : Expr} {x y : Str} {scope : Scope} {pos px py spos : Pos} {ns : List Int} {f : Int → Int} {i : Nat} {G1 : Int → Ctx} {Gs : Ctx} {j : Nat} {sts : List Stmt}
theorem CtxBlk.own_eq {scope : Scope} {own own' : List (Str × Nat)} (e : own.map (·.1) = own'.map (·.1)) {C C' : Ctx} (h : CtxBlk scope own C C') : CtxBlk scope own' C C' := by
  induction h with
  | nil => exact .nil
  | some hv ho _ ih => exact .some hv (e ▸ ho) ih
  | none _ ih => exact .none ih
theorem ints_map {ns : List Int} {f : Int → Int} : intsR (ns.map f) = lstR (ns.map fun n => intR (f n)) := by
  show lstR ((ns.map f).map intR) = _
  rw [List.map_map]
  rfl
theorem ev_lcI (B : Body X) (hG : CtxBlk scope [(x, 0)] G Gb) (c : ∀ n, SetCtx x (some (intR n)) Gb (G1 n) i) (ok : BlkOk X.N X.env.scope scope [(x, i)]) (hx : scope.names.lookup x = some .local) (he : Ev X H0 G iter (intsR ns)) (hl : ns.length ≤ sizeLine)
    (hb : ∀ n ∈ ns, ∀ X', InBlk X X' scope → Ev X' H0 (G1 n) elt (intR (f n))) (hs : ∀ x, foldedSetIterable iter X.env x = pure x) : Ev X H0 G (.ListComp elt [⟨.Name x px, iter, [], 0⟩] scope pos) (intsR (ns.map f)) := by
  have q := ev_lc (tg := .Name x px) (iter := iter) (xs := ns) (R := intR) (S := fun n => intR (f n)) (fun _ => true) (elt := elt) (ifs := []) (pos := pos) B.calm B.nd (pv_lst he) hl ok (CtxBlk.own_eq (own := [(x, 0)]) (own' := [(x, i)]) rfl hG) (fun n hn => ⟨G1 n, [i], fun k hk => by simpa using hk, fun X' b => gv_name (b.sto hx) (by rw [b.N]; exact B.nd) (c n), fun X' b => .nil, fun _ X' b => hb n hn X' b⟩) hs
  rw [List.filter_eq_self.mpr fun _ _ => rfl] at q
  rw [ints_map]
  exact q
theorem bv_setLcI (B : Body X) (hG : CtxBlk scope [(x, 0)] G Gb) (c : ∀ n, SetCtx x (some (intR n)) Gb (G1 n) i) (ok : BlkOk X.N X.env.scope scope [(x, i)]) (hx : scope.names.lookup x = some .local) (he : Ev X H0 G iter (intsR ns)) (hl : ns.length ≤ sizeLine)
    (hb : ∀ n ∈ ns, ∀ X', InBlk X X' scope → Ev X' H0 (G1 n) elt (intR (f n))) (cs : SetCtx y (some (intsR (ns.map f))) G Gs j) (h2 : Bv X H0 Gs sts G' Rr) (hyl : X.env.scope.names.lookup y = some .local)
    (hk : X.env.scope.kind = .function) (hln : (py.line == pos.line) = true) (hany : (scope.names.any fun (n, k) => n == y && (k == .local || k == .cell)) = false) (hs : ∀ x, foldedSetIterable iter X.env x = pure x) : Bv X H0 G (.Assign [.Name y py] (.ListComp elt [⟨.Name x px, iter, [], 0⟩] scope pos) spos :: sts) G' Rr := by
  refine bv_setLc (tg := .Name x px) (iter := iter) (xs := ns) (R := intR) (S := fun n => intR (f n)) (G1 := Gs) (i := j) (fun _ => true) (elt := elt) (ifs := []) (pos := pos) B (pv_lst he) hl ok (CtxBlk.own_eq (own := [(x, 0)]) (own' := [(x, i)]) rfl hG) (fun n hn => ⟨G1 n, [i], fun k hk => by simpa using hk, fun X' b => gv_name (b.sto hx) (by rw [b.N]; exact B.nd) (c n), fun X' b => .nil, fun _ X' b => hb n hn X' b⟩) ?_ h2 hyl (sw_true hk hyl hln hany) hs
  rw [List.filter_eq_self.mpr fun _ _ => rfl]
  rw [ints_map] at cs
  exact cs
theorem kind_of {sc : Scope} (hs : X.env.scope = sc) (h : sc.kind = .function) : X.env.scope.kind = .function := by rw [hs]; exact h
theorem lc_local {sc : Scope} (hs : X.env.scope = sc) (h : sc.names.lookup y = some .local) : X.env.scope.names.lookup y = some .local := by rw [hs]; exact h
end
end Fk

/-! zip with a target of one name: the pair that was given out stays in hand, or is gone -/
namespace PySem
section
variable {prog : Program} {w : World} {A : Around} {E : Value → Shared → Prop} {s : Shared}
/-- a zip with any first field -/
abbrev ZipAny (h : Heap) (z TI TO : Addr) (v : Value) (f : Bool) : Prop :=
  h.get? z = some { cls := .type "zip", dict := none, data := .fields #[v, .bool f, .bool false, .ref TI, .ref TO], slots := #[] }
theorem free_dead {z TI TO T : Addr} {f : Bool} {Q : Bool → Shared → Prop} (hz : ZipAny s.heap z TI TO (rawInt T) f) (hT : s.heap.get? T = none) (h : Q true s) : wpAny (model prog w) A (Builtin.SmallTypes.ownedTupleIsFree (.ref z)) Q E s := by
  unfold Builtin.SmallTypes.ownedTupleIsFree
  refine wpAny_bind (wpAny_field hz rfl (x := rawInt T) rfl ?_)
  show wpAny _ _ (loadIfAlive ((T : Int).toNat) >>= _) _ _ _
  rw [Int.toNat_natCast]
  refine wpAny_bind ?_
  have q : wpAny (model prog w) A ((if (none : Option Obj).isNone = true then pure true else (do
      if (← field (.ref z) 1) != .bool true then setField (.ref z) 1 (.bool true)
      return false)) : Sem Bool) Q E s := by
    simp only [Option.isNone_none, if_true]
    exact wpAny_pure h
  rw [← hT] at q
  exact fun _ _ _ => q
theorem dead_next_item {z TI TO T i1 i2 l1 l2 : Addr} {f : Bool} {k1 k2 : Nat} {xs ys : Array Value} {x y a b : Value} {Q : Value → Shared → Prop} (D : ZipApart z TI TO i1 i2 l1 l2)
    (hz : ZipAny s.heap z TI TO (rawInt T) f) (hT : s.heap.get? T = none) (hTI : IsPair s.heap TI (.ref i1) (.ref i2)) (hTO : IsPair s.heap TO a b)
    (h1 : s.heap.IsListIter i1 l1 k1) (h2 : s.heap.IsListIter i2 l2 k2) (hl1 : s.heap.IsList l1 xs) (hl2 : s.heap.IsList l2 ys) (hx : xs[k1]? = some x) (hy : ys[k2]? = some y)
    (hQ : ∀ h', ZipAny h' z TI TO (rawInt s.heap.objs.size) false → IsPair h' TO x y → h'.IsListIter i1 l1 (k1 + 1) → h'.IsListIter i2 l2 (k2 + 1) → IsPair h' s.heap.objs.size x y → h'.objs.size = s.heap.objs.size + 1 →
      (∀ c o, c ≠ z → c ≠ TO → c ≠ i1 → c ≠ i2 → s.heap.get? c = some o → h'.get? c = some o) → Q (.ref s.heap.objs.size) { s with heap := h' }) :
    wpAny (model prog w) A (Builtin.«zip.__next__» ⟨[.ref z], []⟩) (fun fin s' => ∃ v, fin = .done (.ret v) ∧ Q v s') E s := by
  show wpAny _ _ (field (.ref z) 2 >>= _) _ _ _
  refine wpAny_bind (wpAny_field hz rfl (x := .bool false) rfl ?_)
  show wpAny _ _ (field (.ref z) 3 >>= _) _ _ _
  refine wpAny_bind (wpAny_field hz rfl (x := .ref TI) rfl ?_)
  refine wpAny_bind (wpAny_seqItems hTI rfl ?_)
  refine wpAny_bind (free_dead hz hT ?_)
  simp only [if_true]
  refine wpAny_bind (wpAny_rule ?_)
  refine wpAny_bind (wpAny_field hz rfl (x := .ref TO) rfl ?_)
  refine wpAny_bind (wpAny_setField_rec hz (by simp) fun g1 z1 s1 => ?_)
  replace z1 : ZipAny g1 z TI TO .ellipsis f := z1
  refine wpAny_bind ?_
  simp only [List.zipIdx_cons, List.zipIdx_nil, List.forIn_cons, List.forIn_nil]
  -- the first of the pair
  refine wpAny_bind (wpAny_bind (wpAny_onRaise ?_))
  show wpAny _ _ (Builtin.SmallTypes.nextOf (.ref i1) >>= _) _ _ _
  refine wpAny_bind (wpAny_nextOf_list_item (h1.extBut s1.extBut D.i1z) (hl1.extBut s1.extBut D.l1z) hx fun g2 a2 s2 => wpAny_pure ?_)
  have t2 : IsPair g2 TO a b := s2.extBut _ _ D.TOi1 (s1.extBut _ _ D.TOz hTO)
  refine wpAny_bind (wpAny_seqItems t2 rfl (wpAny_bind (wpAny_updateSeq_pair t2 fun g3 t3 s3 => ?_)))
  replace t3 : IsPair g3 TO x b := t3
  refine wpAny_bind (wpAny_letGo (wpAny_pure ?_))
  -- the second
  refine wpAny_bind (wpAny_bind (wpAny_onRaise ?_))
  show wpAny _ _ (Builtin.SmallTypes.nextOf (.ref i2) >>= _) _ _ _
  refine wpAny_bind (wpAny_nextOf_list_item (((h2.extBut s1.extBut D.i2z).extBut s2.extBut D.i12.symm).extBut s3.extBut D.TOi2.symm) (((hl2.extBut s1.extBut D.l2z).extBut s2.extBut D.l2i1).extBut s3.extBut D.l2TO) hy fun g4 a4 s4 => wpAny_pure ?_)
  have t4 : IsPair g4 TO x b := s4.extBut _ _ D.TOi2 t3
  refine wpAny_bind (wpAny_seqItems t4 rfl (wpAny_bind (wpAny_updateSeq_pair t4 fun g5 t5 s5 => ?_)))
  replace t5 : IsPair g5 TO x y := t5
  refine wpAny_bind (wpAny_letGo (wpAny_pure (wpAny_pure ?_)))
  -- the new pair
  refine wpAny_bind (wpAny_seqItems t5 rfl (wpAny_bind (wpAny_newTuple ?_)))
  have hsz : g5.objs.size = s.heap.objs.size := by rw [s5.1, s4.1, s3.1, s2.1, s1.1]
  have z5 : ZipAny g5 z TI TO .ellipsis f := s5.extBut _ _ D.TOz.symm (s4.extBut _ _ D.i2z.symm (s3.extBut _ _ D.TOz.symm (s2.extBut _ _ D.i1z.symm z1)))
  have kp : ∀ c o, c ≠ z → c ≠ TO → c ≠ i1 → c ≠ i2 → s.heap.get? c = some o → g5.get? c = some o := fun c o c1 c2 c3 c4 e =>
    s5.extBut _ _ c2 (s4.extBut _ _ c4 (s3.extBut _ _ c2 (s2.extBut _ _ c3 (s1.extBut _ _ c1 e))))
  have a5 : g5.IsListIter i1 l1 (k1 + 1) := ((a2.extBut s3.extBut D.TOi1.symm).extBut s4.extBut D.i12).extBut s5.extBut D.TOi1.symm
  have b5 : g5.IsListIter i2 l2 (k2 + 1) := a4.extBut s5.extBut D.TOi2.symm
  have zlt : z < g5.objs.size := Heap.lt_size z5
  show wpAny _ _ (Builtin.SmallTypes.ownedTupleHandOut (.ref z) (.ref g5.objs.size) >>= _) _ _ _
  refine wpAny_bind ?_
  unfold Builtin.SmallTypes.ownedTupleHandOut
  have z6 : ZipAny (g5.push { cls := .type "tuple", data := .seq #[x, y] }) z TI TO .ellipsis f := Heap.get?_push_of_some _ z5
  refine wpAny_bind (wpAny_setField_rec z6 (by simp) fun g7 z7 s7 => ?_)
  replace z7 : ZipAny g7 z TI TO (rawInt g5.objs.size) f := z7
  refine wpAny_setField_rec z7 (by simp) fun g8 z8 s8 => ?_
  replace z8 : ZipAny g8 z TI TO (rawInt g5.objs.size) false := z8
  have up : ∀ c o, c ≠ z → g5.get? c = some o → g8.get? c = some o := fun c o c1 e => s8.extBut _ _ c1 (s7.extBut _ _ c1 (Heap.get?_push_of_some _ e))
  have T8 : IsPair g8 g5.objs.size x y := s8.extBut _ _ (Nat.ne_of_gt zlt) (s7.extBut _ _ (Nat.ne_of_gt zlt) (Heap.get?_push_size _ rfl))
  have n8 : g8.objs.size = g5.objs.size + 1 := by rw [s8.1, s7.1, Heap.size_push]
  rw [hsz] at z8 T8 n8
  refine wpAny_pure ⟨_, rfl, ?_⟩
  show Q (.ref g5.objs.size) _
  rw [hsz]
  exact hQ g8 z8 (up _ _ D.TOz t5) (a5.at fun o e => up _ o D.i1z e) (b5.at fun o e => up _ o D.i2z e) T8 n8 fun c o c1 c2 c3 c4 e => up c o c1 (kp c o c1 c2 c3 c4 e)
theorem dead_pyNext_item {z TI TO T i1 i2 l1 l2 : Addr} {f : Bool} {k1 k2 : Nat} {xs ys : Array Value} {x y a b : Value} {Q : Option Value → Shared → Prop} (D : ZipApart z TI TO i1 i2 l1 l2)
    (hz : ZipAny s.heap z TI TO (rawInt T) f) (hT : s.heap.get? T = none) (hTI : IsPair s.heap TI (.ref i1) (.ref i2)) (hTO : IsPair s.heap TO a b)
    (h1 : s.heap.IsListIter i1 l1 k1) (h2 : s.heap.IsListIter i2 l2 k2) (hl1 : s.heap.IsList l1 xs) (hl2 : s.heap.IsList l2 ys) (hx : xs[k1]? = some x) (hy : ys[k2]? = some y)
    (hQ : ∀ h', ZipAny h' z TI TO (rawInt s.heap.objs.size) false → IsPair h' TO x y → h'.IsListIter i1 l1 (k1 + 1) → h'.IsListIter i2 l2 (k2 + 1) → IsPair h' s.heap.objs.size x y → h'.objs.size = s.heap.objs.size + 1 →
      (∀ c o, c ≠ z → c ≠ TO → c ≠ i1 → c ≠ i2 → s.heap.get? c = some o → h'.get? c = some o) → Q (some (.ref s.heap.objs.size)) { s with heap := h' }) :
    wpAny (model prog w) A (pyNext (.ref z)) Q E s := by
  have hTy : s.TypeIs (.ref z) "zip" := ⟨_, hz, rfl⟩
  unfold pyNext
  exact wpAny_bind (wpAny_attempt (wpAny_callSpecial?_slot (name := Str.ofString "__next__") hTy F.slot_zip_next
    (wpAny_call_entry F.slot_zip_next hTy F.entry_zip_next
      (dead_next_item D hz hT hTI hTO h1 h2 hl1 hl2 hx hy fun h' a1 a2 a3 a4 a5 a6 a7 => wpAny_pure (hQ h' a1 a2 a3 a4 a5 a6 a7)) (F.args_zip_next_1 _))))
theorem dead_next_end {z TI TO T i1 i2 l1 l2 : Addr} {f : Bool} {k1 k2 : Nat} {xs ys : Array Value} {a b : Value} {Q : Fin → Shared → Prop} (hh : A.handled = none) (D : ZipApart z TI TO i1 i2 l1 l2)
    (hz : ZipAny s.heap z TI TO (rawInt T) f) (hT : s.heap.get? T = none) (hTI : IsPair s.heap TI (.ref i1) (.ref i2)) (hTO : IsPair s.heap TO a b)
    (h1 : s.heap.IsListIter i1 l1 k1) (h2 : s.heap.IsListIter i2 l2 k2) (hl1 : s.heap.IsList l1 xs) (hl2 : s.heap.IsList l2 ys) (hend : xs[k1]? = none ∨ ys[k2]? = none)
    (hE : ∀ h' e, (∀ c o, c ≠ z → c ≠ TO → c ≠ i1 → c ≠ i2 → s.heap.get? c = some o → h'.get? c = some o) → (∃ o, h'.get? e = some o ∧ o.cls = .type "StopIteration") → E (.ref e) { s with heap := h' }) :
    wpAny (model prog w) A (Builtin.«zip.__next__» ⟨[.ref z], []⟩) Q E s := by
  show wpAny _ _ (field (.ref z) 2 >>= _) _ _ _
  refine wpAny_bind (wpAny_field hz rfl (x := .bool false) rfl ?_)
  show wpAny _ _ (field (.ref z) 3 >>= _) _ _ _
  refine wpAny_bind (wpAny_field hz rfl (x := .ref TI) rfl ?_)
  refine wpAny_bind (wpAny_seqItems hTI rfl ?_)
  refine wpAny_bind (free_dead hz hT ?_)
  simp only [if_true]
  refine wpAny_bind (wpAny_rule ?_)
  refine wpAny_bind (wpAny_field hz rfl (x := .ref TO) rfl ?_)
  refine wpAny_bind (wpAny_setField_rec hz (by simp) fun g1 z1 s1 => ?_)
  replace z1 : ZipAny g1 z TI TO .ellipsis f := z1
  refine wpAny_bind ?_
  simp only [List.zipIdx_cons, List.zipIdx_nil, List.forIn_cons, List.forIn_nil]
  refine wpAny_bind (wpAny_bind (wpAny_onRaise ?_))
  show wpAny _ _ (Builtin.SmallTypes.nextOf (.ref i1) >>= _) _ _ _
  cases hx : xs[k1]? with
  | none =>
    refine wpAny_bind (wpAny_nextOf_list_end hh (h1.extBut s1.extBut D.i1z) (hl1.extBut s1.extBut D.l1z) hx fun g2 e s2 he => ?_)
    obtain ⟨oe, hoe, hce⟩ := he
    have z2 : ZipAny g2 z TI TO .ellipsis f := s2 _ _ D.i1z.symm z1
    have hez : e ≠ z := fun x => by subst x; rw [z2] at hoe; cases hoe; simp at hce
    exact wpAny_setField_rec z2 (by simp) fun g3 _ s3 => hE g3 e (fun c o c1 _ c3 _ x => s3.extBut _ _ c1 (s2 _ _ c3 (s1.extBut _ _ c1 x))) ⟨oe, s3.extBut _ _ hez hoe, hce⟩
  | some x =>
    have hy : ys[k2]? = none := by rcases hend with h | h; rw [hx] at h; cases h; exact h
    refine wpAny_bind (wpAny_nextOf_list_item (h1.extBut s1.extBut D.i1z) (hl1.extBut s1.extBut D.l1z) hx fun g2 a2 s2 => wpAny_pure ?_)
    have t2 : IsPair g2 TO a b := s2.extBut _ _ D.TOi1 (s1.extBut _ _ D.TOz hTO)
    refine wpAny_bind (wpAny_seqItems t2 rfl (wpAny_bind (wpAny_updateSeq_pair t2 fun g3 t3 s3 => ?_)))
    refine wpAny_bind (wpAny_letGo (wpAny_pure ?_))
    refine wpAny_bind (wpAny_bind (wpAny_onRaise ?_))
    show wpAny _ _ (Builtin.SmallTypes.nextOf (.ref i2) >>= _) _ _ _
    refine wpAny_bind (wpAny_nextOf_list_end hh (((h2.extBut s1.extBut D.i2z).extBut s2.extBut D.i12.symm).extBut s3.extBut D.TOi2.symm) (((hl2.extBut s1.extBut D.l2z).extBut s2.extBut D.l2i1).extBut s3.extBut D.l2TO) hy fun g4 e s4 he => ?_)
    obtain ⟨oe, hoe, hce⟩ := he
    have z4 : ZipAny g4 z TI TO .ellipsis f := s4 _ _ D.i2z.symm (s3.extBut _ _ D.TOz.symm (s2.extBut _ _ D.i1z.symm z1))
    have hez : e ≠ z := fun x => by subst x; rw [z4] at hoe; cases hoe; simp at hce
    exact wpAny_setField_rec z4 (by simp) fun g5 _ s5 => hE g5 e (fun c o c1 c2 c3 c4 x => s5.extBut _ _ c1 (s4 _ _ c4 (s3.extBut _ _ c2 (s2.extBut _ _ c3 (s1.extBut _ _ c1 x))))) ⟨oe, s5.extBut _ _ hez hoe, hce⟩
theorem dead_pyNext_end {z TI TO T i1 i2 l1 l2 : Addr} {f : Bool} {k1 k2 : Nat} {xs ys : Array Value} {a b : Value} {Q : Option Value → Shared → Prop} (hh : A.handled = none) (D : ZipApart z TI TO i1 i2 l1 l2)
    (hz : ZipAny s.heap z TI TO (rawInt T) f) (hT : s.heap.get? T = none) (hTI : IsPair s.heap TI (.ref i1) (.ref i2)) (hTO : IsPair s.heap TO a b)
    (h1 : s.heap.IsListIter i1 l1 k1) (h2 : s.heap.IsListIter i2 l2 k2) (hl1 : s.heap.IsList l1 xs) (hl2 : s.heap.IsList l2 ys) (hend : xs[k1]? = none ∨ ys[k2]? = none)
    (hQ : ∀ h', (∀ c o, c ≠ z → c ≠ TO → c ≠ i1 → c ≠ i2 → s.heap.get? c = some o → h'.get? c = some o) → Q none { s with heap := h' }) : wpAny (model prog w) A (pyNext (.ref z)) Q E s := by
  have hTy : s.TypeIs (.ref z) "zip" := ⟨_, hz, rfl⟩
  unfold pyNext
  refine wpAny_bind (wpAny_attempt (wpAny_callSpecial?_slot (name := Str.ofString "__next__") hTy F.slot_zip_next
    (wpAny_call_entry F.slot_zip_next hTy F.entry_zip_next (dead_next_end hh D hz hT hTI hTO h1 h2 hl1 hl2 hend fun h' e hk he => ?_) (F.args_zip_next_1 _))))
  obtain ⟨o, ho, hc⟩ := he
  refine wpAny_bind (wpAny_isInstance (T := "StopIteration") (b := true) ⟨o, ho, hc⟩ isSubtype_stop ?_)
  exact wpAny_pure (hQ _ hk)
end
end PySem

namespace L2
open PySem PyProof.Rows
def ZipSt (h : Heap) (z TI TO : Addr) : Prop := ∃ v f, ZipAny h z TI TO v f ∧ ((v = .none ∧ f = false) ∨ ∃ T : Addr, v = rawInt T)
theorem zipN_item {P : Program} {w : World} {A : Around} {E : Value → Shared → Prop} {s : Shared} {z TI TO i1 i2 l1 l2 : Addr} {k1 k2 : Nat} {xs ys : Array Value} {x y a b : Value} {Q : Option Value → Shared → Prop} (D : ZipApart z TI TO i1 i2 l1 l2)
    (hz : ZipSt s.heap z TI TO) (hTI : IsPair s.heap TI (.ref i1) (.ref i2)) (hTO : IsPair s.heap TO a b)
    (h1 : s.heap.IsListIter i1 l1 k1) (h2 : s.heap.IsListIter i2 l2 k2) (hl1 : s.heap.IsList l1 xs) (hl2 : s.heap.IsList l2 ys) (hx : xs[k1]? = some x) (hy : ys[k2]? = some y)
    (hQ : ∀ h' a b, ZipSt h' z TI TO → IsPair h' TI (.ref i1) (.ref i2) → IsPair h' TO a b → h'.IsListIter i1 l1 (k1 + 1) → h'.IsListIter i2 l2 (k2 + 1) → IsPair h' s.heap.objs.size x y → h'.objs.size = s.heap.objs.size + 1 →
      (∀ c o, c ≠ z → c ≠ TO → c ≠ i1 → c ≠ i2 → s.heap.get? c = some o → h'.get? c = some o) → Q (some (.ref s.heap.objs.size)) { s with heap := h' }) :
    wpAny (model P w) A (pyNext (.ref z)) Q E s := by
  obtain ⟨v, f, hz, ⟨rfl, rfl⟩ | ⟨T, rfl⟩⟩ := hz
  · refine wpAny_pyNext_zip_item D hz hTI hTO h1 h2 hl1 hl2 hx hy fun h' a1 a2 a3 a4 a5 a6 hk => hQ h' _ _ ⟨_, _, a1, .inr ⟨_, rfl⟩⟩ (hk _ _ D.TIz D.TITO D.TIi1 D.TIi2 hTI) a2 a3 a4 a5 a6 hk
  · cases hT : s.heap.get? T with
    | none => exact dead_pyNext_item D hz hT hTI hTO h1 h2 hl1 hl2 hx hy fun h' a1 a2 a3 a4 a5 a6 hk => hQ h' _ _ ⟨_, _, a1, .inr ⟨_, rfl⟩⟩ (hk _ _ D.TIz D.TITO D.TIi1 D.TIi2 hTI) a2 a3 a4 a5 a6 hk
    | some oT => exact wpAny_pyNext_zip_item_held D hz hT hTI h1 h2 hl1 hl2 hx hy fun h' a1 a3 a4 a5 a6 hk => hQ h' a b ⟨_, _, a1, .inr ⟨_, rfl⟩⟩ (hk _ _ D.TIz D.TIi1 D.TIi2 hTI) (hk _ _ D.TOz D.TOi1 D.TOi2 hTO) a3 a4 a5 a6 fun c o c1 c2 c3 c4 e => hk c o c1 c3 c4 e
theorem zipN_end {P : Program} {w : World} {A : Around} {E : Value → Shared → Prop} {s : Shared} {z TI TO i1 i2 l1 l2 : Addr} {k1 k2 : Nat} {xs ys : Array Value} {a b : Value} {Q : Option Value → Shared → Prop} (hh : A.handled = none) (D : ZipApart z TI TO i1 i2 l1 l2)
    (hz : ZipSt s.heap z TI TO) (hTI : IsPair s.heap TI (.ref i1) (.ref i2)) (hTO : IsPair s.heap TO a b)
    (h1 : s.heap.IsListIter i1 l1 k1) (h2 : s.heap.IsListIter i2 l2 k2) (hl1 : s.heap.IsList l1 xs) (hl2 : s.heap.IsList l2 ys) (hend : xs[k1]? = none ∨ ys[k2]? = none)
    (hQ : ∀ h', (∀ c o, c ≠ z → c ≠ TO → c ≠ i1 → c ≠ i2 → s.heap.get? c = some o → h'.get? c = some o) → Q none { s with heap := h' }) : wpAny (model P w) A (pyNext (.ref z)) Q E s := by
  obtain ⟨v, f, hz, ⟨rfl, rfl⟩ | ⟨T, rfl⟩⟩ := hz
  · exact wpAny_pyNext_zip_end hh D hz hTI hTO h1 h2 hl1 hl2 hend hQ
  · cases hT : s.heap.get? T with
    | none => exact dead_pyNext_end hh D hz hT hTI hTO h1 h2 hl1 hl2 hend hQ
    | some oT => exact wpAny_pyNext_zip_end_held hh D hz hT hTI h1 h2 hl1 hl2 hend fun h' hk => hQ h' fun c o c1 c2 c3 c4 e => hk c o c1 c3 c4 e
theorem turn_zipN {P : Program} {w : World} {K : PySem.W.Frag} {x : Str} {px : Pos} {a b z TI TO i1 i2 : Addr} (D : ZipApart z TI TO i1 i2 a b) :
    Turn P w K (.Name x px) (Itz K a b) [z, TI, TO, i1, i2] z (fun i h => ZipSt h z TI TO ∧ IsPair h TI (.ref i1) (.ref i2) ∧ (∃ x y, IsPair h TO x y) ∧ h.IsListIter i1 a i ∧ h.IsListIter i2 b i) where
  mem := by simp
  obj := fun i h st c hc => by
    obtain ⟨⟨v, f, hz, _⟩, hTI, ⟨x, y, hTO⟩, ⟨o1, e1, _, d1⟩, ⟨o2, e2, _, d2⟩⟩ := st
    have e' : c = z ∨ c = TI ∨ c = TO ∨ c = i1 ∨ c = i2 := by simpa using hc
    rcases e' with q | q | q | q | q
    · rw [q]; exact ⟨_, hz, fun v q => nomatch q⟩
    · rw [q]; exact ⟨_, hTI, fun v q => nomatch q⟩
    · rw [q]; exact ⟨_, hTO, fun v q => nomatch q⟩
    · rw [q]; exact ⟨o1, e1, fun v q => by rw [d1] at q; cases q⟩
    · rw [q]; exact ⟨o2, e2, fun v q => by rw [d2] at q; cases q⟩
  keep := fun i h h' st k => by
    obtain ⟨⟨v, f, hz, hv⟩, hTI, ⟨x, y, hTO⟩, h1, h2⟩ := st
    exact ⟨⟨v, f, k z (by simp) _ hz, hv⟩, k TI (by simp) _ hTI, ⟨x, y, k TO (by simp) _ hTO⟩, h1.at fun o q => k i1 (by simp) o q, h2.at fun o q => k i2 (by simp) o q⟩
  item := by
    intro X hP hw hK hc i pins s σ H E I hf st hg
    subst hP hw hK
    obtain ⟨hz, hTI, ⟨x0, y0, hTO⟩, h1, h2⟩ := st
    obtain ⟨xs, ys, u0, v0, hqx, hqy, hx, hy⟩ := hg
    obtain ⟨its, rv, p, _⟩ := I.list hqx
    obtain ⟨its2, rv2, p2, _⟩ := I.list hqy
    obtain ⟨u, hu, ru⟩ := rv.get hx
    obtain ⟨u2, hu2, ru2⟩ := rv2.get hy
    have hzl : z < s.heap.objs.size := by obtain ⟨_, _, q, _⟩ := hz; exact Heap.lt_size q
    refine zipN_item D hz hTI hTO h1 h2 p.isList p2.isList (x := u) (y := u2) (by simpa using hu) (by simpa using hu2) fun h' p0 q0 z' hTI' hTO' h1' h2' hT hsz hk => ?_
    refine ⟨_, rfl, ?_⟩
    show wpAny _ _ (pure ()) _ _ _
    refine wpAny_pure ?_
    have new : ObjOk X.prog X.w (upd H s.heap.objs.size (.tup [u0, v0])) h' s.heap.objs.size (.tup [u0, v0]) :=
      ⟨by show 2 ≤ sizeLine; decide, [u, u2], .cons ru (.cons ru2 .nil), ⟨_, hT, rfl, _, rfl⟩⟩
    have I1 : Inv X pins σ (upd H s.heap.objs.size (.tup [u0, v0])) { s with heap := h' } :=
      I.turnedNew (t' := s.toks) (ch := [z, TI, TO, i1, i2]) (fun c o hb q => hk c o (fun q' => hb (by simp [q'])) (fun q' => hb (by simp [q'])) (fun q' => hb (by simp [q'])) (fun q' => hb (by simp [q'])) q) hf (Nat.le_refl _) new
    refine ⟨.ref s.heap.objs.size, _, I1, rfl, ⟨_, u0, v0, rfl, I.hok.fresh (Nat.le_refl _), rfl, fun l hl => by rw [I.list_inj hl hqx]; exact hx, fun l hl => by rw [I.list_inj hl hqy]; exact hy⟩, ⟨z', hTI', ⟨p0, q0, hTO'⟩, h1', h2'⟩, fun c hcm => ?_⟩
    have hlt : c < s.heap.objs.size := by
      have e' : c = z ∨ c = TI ∨ c = TO ∨ c = i1 ∨ c = i2 := by simpa using hcm
      rcases e' with q | q | q | q | q
      · rw [q]; exact hzl
      · rw [q]; exact Heap.lt_size hTI
      · rw [q]; exact Heap.lt_size hTO
      · rw [q]; obtain ⟨_, e1, _⟩ := h1; exact Heap.lt_size e1
      · rw [q]; obtain ⟨_, e2, _⟩ := h2; exact Heap.lt_size e2
    rw [upd_ne (Nat.ne_of_lt hlt)]
    exact (hf c hcm).1
  done := by
    intro X hP hw hK hc i pins s σ H E I hf st hg
    subst hP hw hK
    obtain ⟨hz, hTI, ⟨x0, y0, hTO⟩, h1, h2⟩ := st
    obtain ⟨xs, ys, hqx, hqy, hend⟩ := hg
    obtain ⟨its, rv, p, _⟩ := I.list hqx
    obtain ⟨its2, rv2, p2, _⟩ := I.list hqy
    have l1 := rv.length
    have l2 := rv2.length
    have he : its.toArray[i]? = none ∨ its2.toArray[i]? = none := by
      rcases hend with q | q
      · exact .inl (by simp; omega)
      · exact .inr (by simp; omega)
    exact zipN_end (I.ok.hd hc) D hz hTI hTO h1 h2 p.isList p2.isList he fun h' hk => ⟨rfl, I.turnedL (t' := s.toks) (ch := [z, TI, TO, i1, i2]) (fun c o hb q =>
      hk c o (fun q' => hb (by simp [q'])) (fun q' => hb (by simp [q'])) (fun q' => hb (by simp [q'])) (fun q' => hb (by simp [q'])) q) hf⟩
  self := fun A i s Q E st h => by
    obtain ⟨⟨v, f, hz, _⟩, _⟩ := st
    have hT : s.TypeIs (.ref z) "zip" := ⟨_, hz, rfl⟩
    refine wpAny_pyIter_slot hT F.slot_zip_iter (wpAny_call_entry F.slot_zip_iter hT F.entry_zip_iter ?_ (F.args_zip_iter_1 _))
    show wpAny _ _ (ret (.ref z)) _ _ s
    exact wpAny_pure ⟨_, rfl, "zip", _, hT, F.slot_zip_next.lookup, h⟩
theorem pi_zipN {X : Cx} {e e2 : Expr} {ta : TA} {x : Str} {px p pos : Pos} (hg : Gl X "zip") (hm : X.mg "zip" = none) (ha : PA X [e, e2] ta)
    (hs : starEach [e, e2] X.env = (false, eval e X.env) :: starEach [e2] X.env) (hpl : (backTo pos (starEach [e2] X.env)).any (·.1) = false) :
    PI X (.Name x px) (.Call (.Name "zip" p) [e, e2] [] pos) (iZip X.K ta) := by
  refine ⟨fun pins s σ H R I h => ?_⟩
  refine Call_ (ld_blt I hg hm PyProof.Rows.boot_zip (PyProof.Rows.callWith_type1 (thn (ha.run pos pins s σ H _ I h) fun us s1 ⟨vs, H1, I1, r1, q1⟩ => ?_) hs hpl))
  obtain ⟨a, b, xs, ys, ex, hqx, hqy, q⟩ := q1
  subst ex
  cases r1 with
  | cons r rr =>
    cases rr with
    | cons r' rr =>
      cases rr
      cases r
      cases r'
      obtain ⟨its, rv, p1, _⟩ := I1.list hqx
      obtain ⟨its2, rv2, p2, _⟩ := I1.list hqy
      have la : a < s1.heap.objs.size := p1.lt
      have lb : b < s1.heap.objs.size := p2.lt
      refine call_zip_2 p1.isList p2.isList fun h' hz hTI hTO h1 h2 hsz hk => wpAny_pyIter_zip hz ?_
      have I2 : Inv X pins σ H1 { s1 with heap := h' } := I1.kept (t' := s1.toks) hk
      refine ⟨s1.heap.objs.size + 4, [s1.heap.objs.size + 4, s1.heap.objs.size + 2, s1.heap.objs.size + 3, s1.heap.objs.size, s1.heap.objs.size + 1], _, _, H1, rfl, I2, turn_zipN (PySem.W.ktu_apart s1.heap.objs.size a b la lb), ⟨⟨_, _, hz, .inl ⟨rfl, rfl⟩⟩, hTI, ⟨_, _, hTO⟩, h1, h2⟩, fun c hcm => ?_, q⟩
      have e' : c = s1.heap.objs.size + 4 ∨ c = s1.heap.objs.size + 2 ∨ c = s1.heap.objs.size + 3 ∨ c = s1.heap.objs.size ∨ c = s1.heap.objs.size + 1 := by simpa using hcm
      have hle : s1.heap.objs.size ≤ c := by rcases e' with q' | q' | q' | q' | q' <;> rw [q'] <;> first | exact Nat.le_add_right _ _ | exact Nat.le_refl _
      exact I1.fpOk hle (I1.hok.fresh hle)
end L2
namespace Fk
open PySem L2
section
variable {X : Cx} {H0 : Hp} {G : Ctx} {α β : Type} {a b : Expr} {p px pos : Pos} {x : Str}
theorem pv_zipN {xs : List α} {ys : List β} {R : α → Rel} {S : β → Rel} (ha : Ev X H0 G a (sqR X.K (xs.map R))) (hb : Ev X H0 G b (sqR X.K (ys.map S))) (hm : X.mg "zip" = none) (hg : Gl X "zip")
    (hs : starEach (a :: [b]) X.env = (false, eval a X.env) :: starEach [b] X.env) (hs2 : starEach (b :: []) X.env = (false, eval b X.env) :: starEach [] X.env) (hpl : (backTo pos (starEach [b] X.env)).any (·.1) = false) :
    Pv X H0 G (.Name x px) (.Call (.Name "zip" p) [a, b] [] pos) (xs.zip ys) (fun q => tupR [R q.1, S q.2]) := by
  refine ⟨_, pi_zipN hg hm (av_cons ha (av_cons hb av_nil hs2) hs) hs hpl, fun σ H Rk g Sl q => ⟨g, Sl, fun vs H1 s1 r1 => ?_⟩⟩
  obtain ⟨v, w, rfl, ⟨a1, ws, rfl, ha1, r⟩, ⟨b1, us, rfl, hb1, r2⟩⟩ := r1.two
  have hl := r.length
  have hl2 := r2.length
  rw [List.length_map] at hl hl2
  refine ⟨a1, b1, ws, us, rfl, ha1, hb1, q _ _ s1 ⟨fun H => SqL X.K H a1 ws ∧ SqL X.K H b1 us, _, ⟨ha1, hb1⟩, fun H' s => ⟨s.seq ha1, s.seq hb1⟩, walk_zip (by rw [List.length_zip, hl, hl2]), fun i H x H' hi s y => ?_, fr_pair⟩⟩
  obtain ⟨T, x1, y1, rfl, hT, rfl, e1, e2⟩ := y
  have sn := s.trans (same_new (o := .tup [x1, y1]) hT)
  obtain ⟨c, ec, rc⟩ := args_at (r.up sn) e1
  obtain ⟨d, ed, rd⟩ := args_at (r2.up sn) e2
  exact ⟨same_new hT, (c, d), (List.getElem?_zip_eq_some (z := (c, d))).mpr ⟨ec, ed⟩, T, _, rfl, upd_same, rc, rd, trivial⟩
end
end Fk

namespace L2
open PySem PySem.Spec PyProof.Rows
/-- max of a tuple of two whole numbers -/
def rMaxT (K : PySem.W.Frag) : List V → Hp → VK → Prop := fun vs H Q => ∃ (a : Addr) (i j : Int), vs = [V.ref a] ∧ SqT K H a [V.int i, V.int j] ∧ Q (.int (max i j)) H
theorem cr_maxT {X : Cx} (hc : X.calm = true) (hu : X.A.units + 65 < cLine) : CallR X (.builtin "max") (rMaxT X.K) := by
  intro pins s σ H vs us Q I r h
  obtain ⟨a, i, j, rfl, hs, q⟩ := h
  obtain ⟨its, rv, hp, _⟩ := I.tuple hs
  rw [Vals.ref1 r]
  obtain ⟨as, hr⟩ := Dp.readsAll I [.int i, .int j] _ its (DpAll.cons (.int i) (.cons (.int j) .nil)) rv
  refine PySem.W.max_tuple_data (x := .int i) (xs := [.int j]) (I.ok.hd hc) hp (by simpa using hr) ⟨fun x hx y hy => ?_, fun x hx => ?_⟩ ?_ fun k v h' tk bs hi hrd hk => ?_
  · rcases List.mem_cons.mp hx with rfl | hx
    · rcases List.mem_cons.mp hy with rfl | hy
      · simp only [PySem.W.alike]
      · rw [List.mem_singleton] at hy; subst hy; simp only [PySem.W.alike]
    · rw [List.mem_singleton] at hx
      subst hx
      rcases List.mem_cons.mp hy with rfl | hy
      · simp only [PySem.W.alike]
      · rw [List.mem_singleton] at hy; subst hy; simp only [PySem.W.alike]
  · rcases List.mem_cons.mp hx with rfl | hx
    · exact fun e => nomatch e
    · rw [List.mem_singleton] at hx; subst hx; exact fun e => nomatch e
  · simp only [PyData.depthAll, PyData.depth]; omega
  · have e : PySem.W.maxD (.int i) [.int j] = .int (max i j) := PySem.W.maxD_ints i [j]
    rw [e] at hrd
    cases hrd
    exact ⟨.int _, H, I.kept hk, ⟨_, rfl⟩, q⟩
end L2
namespace Fk
open PySem L2
section
variable {X : Cx} {i j : Int}
theorem cb_maxP (hm : X.mg "max" = none) (hc : X.calm = true) (hu : X.A.units + 65 < cLine) : CallB X "max" [tupR [intR i, intR j]] (intR (max i j)) :=
  ⟨hm, _, _, cr_maxT hc hu, by decide +kernel, .inl ⟨_, rfl⟩, fun vs H Q hv q => by
    obtain ⟨v, rfl, a, ws, rfl, ha, r⟩ := hv.one
    obtain ⟨v, w, rfl, h1, h2⟩ := r.two
    cases h1
    cases h2
    exact ⟨a, i, j, rfl, SqT.of ha, q _ _ (Same.refl H) rfl⟩⟩
theorem args_bls : ∀ {bs : List Bool} {vs : List V} {H : Hp}, Args (bs.map blR) vs H → vs = bs.map V.bl
  | [], [], _, _ => rfl
  | n :: ns, v :: vs, H, h => by
    have h1 : v = V.bl n := h.1
    rw [h1, args_bls (bs := ns) (vs := vs) h.2]
    rfl
  | [], _ :: _, _, h => h.elim
  | _ :: _, [], _, h => h.elim
theorem cb_all {bs : List Bool} (hm : X.mg "all" = none) (hc : X.calm = true) : CallB X "all" [lstR (bs.map blR)] (blR (bs.all id)) :=
  ⟨hm, _, _, cr_all hc, by decide +kernel, .inl ⟨_, rfl⟩, fun vs H Q hv q => by
    obtain ⟨v, rfl, a, ws, rfl, ha, r⟩ := hv.one
    rw [args_bls r] at ha
    exact ⟨a, bs, rfl, SqL.of ha, q _ _ (Same.refl H) rfl⟩⟩
end
end Fk

namespace Fk
open PySem L2
section
variable {X : Cx} {H0 : Hp} {G Gb Gs : Ctx} {G' : Option Ctx} {Rr : Rel} {iter elt : Expr} {x y z : Str} {scope : Scope} {pos px py pz tpos spos : Pos} {i j k n : Nat} {sts : List Stmt} {α : Type} {xs : List α} {R Ra Rb S : α → Rel} {G1 G2 : α → Ctx}
theorem filt_true (xs : List α) : xs.filter (fun _ => true) = xs := List.filter_eq_self.mpr fun _ _ => rfl
/-- [e for x in ..] -/
theorem ev_lc1 (B : Body X) (hp : Pv X H0 G (.Name x px) iter xs R) (hl : xs.length ≤ sizeLine) (hG : CtxBlk scope [(x, 0)] G Gb) (c : ∀ q, SetCtx x (some (R q)) Gb (G1 q) i) (ok : BlkOk X.N X.env.scope scope [(x, i)]) (hx : scope.names.lookup x = some .local)
    (hb : ∀ q ∈ xs, ∀ X', InBlk X X' scope → Ev X' H0 (G1 q) elt (S q)) (hs : ∀ x, foldedSetIterable iter X.env x = pure x) : Ev X H0 G (.ListComp elt [⟨.Name x px, iter, [], 0⟩] scope pos) (lstR (xs.map S)) := by
  have q := ev_lc (tg := .Name x px) (iter := iter) (xs := xs) (R := R) (S := S) (fun _ => true) (elt := elt) (ifs := []) (pos := pos) B.calm B.nd hp hl ok (CtxBlk.own_eq (own := [(x, 0)]) (own' := [(x, i)]) rfl hG) (fun a ha => ⟨G1 a, [i], fun k hk => by simpa using hk, fun X' b => gv_name (b.sto hx) (by rw [b.N]; exact B.nd) (c a), fun X' b => .nil, fun _ X' b => hb a ha X' b⟩) hs
  rw [filt_true] at q
  exact q
theorem gv_two {X' : Cx} (B : Body X) (b : InBlk X X' scope) (hx : scope.names.lookup x = some .local) (hy : scope.names.lookup y = some .local) {q : α} (c1 : SetCtx x (some (Ra q)) Gb (G1 q) i) (c2 : SetCtx y (some (Rb q)) (G1 q) (G2 q) j) :
    Gv X' H0 Gb (.Tuple [.Name x px, .Name y py] n tpos) (tupR [Ra q, Rb q]) (G2 q) ([i] ++ [j]) :=
  gv_tup2 (by rw [b.calm]; exact B.calm) (gv_name (b.sto hx) (by rw [b.N]; exact B.nd) c1) (gv_name (b.sto hy) (by rw [b.N]; exact B.nd) c2) rfl rfl rfl rfl
/-- [e for x, y in ..] -/
theorem ev_lc2 (B : Body X) (hp : Pv X H0 G (.Tuple [.Name x px, .Name y py] n tpos) iter xs (fun q => tupR [Ra q, Rb q])) (hl : xs.length ≤ sizeLine) (hG : CtxBlk scope [(x, 0), (y, 0)] G Gb) (c1 : ∀ q, SetCtx x (some (Ra q)) Gb (G1 q) i) (c2 : ∀ q, SetCtx y (some (Rb q)) (G1 q) (G2 q) j)
    (ok : BlkOk X.N X.env.scope scope [(x, i), (y, j)]) (hx : scope.names.lookup x = some .local) (hy : scope.names.lookup y = some .local)
    (hb : ∀ q ∈ xs, ∀ X', InBlk X X' scope → Ev X' H0 (G2 q) elt (S q)) (hs : ∀ x, foldedSetIterable iter X.env x = pure x) : Ev X H0 G (.ListComp elt [⟨.Tuple [.Name x px, .Name y py] n tpos, iter, [], 0⟩] scope pos) (lstR (xs.map S)) := by
  have q := ev_lc (tg := .Tuple [.Name x px, .Name y py] n tpos) (iter := iter) (xs := xs) (R := fun q => tupR [Ra q, Rb q]) (S := S) (fun _ => true) (elt := elt) (ifs := []) (pos := pos) B.calm B.nd hp hl ok (CtxBlk.own_eq (own := [(x, 0), (y, 0)]) (own' := [(x, i), (y, j)]) rfl hG)
    (fun a ha => ⟨G2 a, [i] ++ [j], fun k hk => by simpa using hk, fun X' b => gv_two B b hx hy (c1 a) (c2 a), fun X' b => .nil, fun _ X' b => hb a ha X' b⟩) hs
  rw [filt_true] at q
  exact q
theorem bv_setLc2 (B : Body X) (hp : Pv X H0 G (.Tuple [.Name x px, .Name y py] n tpos) iter xs (fun q => tupR [Ra q, Rb q])) (hl : xs.length ≤ sizeLine) (hG : CtxBlk scope [(x, 0), (y, 0)] G Gb) (c1 : ∀ q, SetCtx x (some (Ra q)) Gb (G1 q) i) (c2 : ∀ q, SetCtx y (some (Rb q)) (G1 q) (G2 q) j)
    (ok : BlkOk X.N X.env.scope scope [(x, i), (y, j)]) (hx : scope.names.lookup x = some .local) (hy : scope.names.lookup y = some .local)
    (hb : ∀ q ∈ xs, ∀ X', InBlk X X' scope → Ev X' H0 (G2 q) elt (S q)) (cs : SetCtx z (some (lstR (xs.map S))) G Gs k) (h2 : Bv X H0 Gs sts G' Rr) (hyl : X.env.scope.names.lookup z = some .local)
    (hk : X.env.scope.kind = .function) (hln : (pz.line == pos.line) = true) (hany : (scope.names.any fun (n, k) => n == z && (k == .local || k == .cell)) = false) (hs : ∀ x, foldedSetIterable iter X.env x = pure x) :
    Bv X H0 G (.Assign [.Name z pz] (.ListComp elt [⟨.Tuple [.Name x px, .Name y py] n tpos, iter, [], 0⟩] scope pos) spos :: sts) G' Rr := by
  refine bv_setLc (tg := .Tuple [.Name x px, .Name y py] n tpos) (iter := iter) (xs := xs) (R := fun q => tupR [Ra q, Rb q]) (S := S) (G1 := Gs) (i := k) (fun _ => true) (elt := elt) (ifs := []) (pos := pos) B hp hl ok (CtxBlk.own_eq (own := [(x, 0), (y, 0)]) (own' := [(x, i), (y, j)]) rfl hG)
    (fun a ha => ⟨G2 a, [i] ++ [j], fun k hk => by simpa using hk, fun X' b => gv_two B b hx hy (c1 a) (c2 a), fun X' b => .nil, fun _ X' b => hb a ha X' b⟩) ?_ h2 hyl (sw_true hk hyl hln hany) hs
  rw [filt_true]
  exact cs
end
end Fk

namespace Fk
open PySem L2
theorem sw_par2 {env : Env} {x y : Str} {px py pt p1 p2 pt2 : Pos} {kt k2 : Nat} {f1 f2 : Expr} {as1 as2 : List Expr} {ks1 ks2 : List Keyword} (hk : env.scope.kind = .function) (hx : env.scope.names.lookup x = some .local) (hy : env.scope.names.lookup y = some .local) (hxy : y ≠ x) (hl : (py.line == px.line) = true) :
    swappedStores [.Tuple [.Name x px, .Name y py] kt pt] (.Tuple [.Call f1 as1 ks1 p1, .Call f2 as2 ks2 p2] k2 pt2) env = pure (some [x, y]) := by
  have kx : env.kindOf x = some .local := hx
  have ky : env.kindOf y = some .local := hy
  have hb : env.blockKind = .function := by unfold Env.blockKind; rw [hk]; rfl
  have hl' : py.line = px.line := eq_of_beq hl
  have hd : ([x, y] : List Str).eraseDups = [x, y] := by
    rw [List.eraseDups_cons]
    simp [hxy, List.eraseDups_cons]
  unfold swappedStores
  simp [hb, kx, ky, hl', Expr.pos, List.filterMap, hd, foldedForSure, constantsAlone]
end Fk

local macro_rules | `(tactic| walk_at "fs_call") => do
  let c1 := Lean.mkIdent `c1
  let c2 := Lean.mkIdent `c2
  let c3 := Lean.mkIdent `c3
  let c4 := Lean.mkIdent `c4
  let c5 := Lean.mkIdent `c5
  let c6 := Lean.mkIdent `c6
  let c7 := Lean.mkIdent `c7
  let c8 := Lean.mkIdent `c8
  let c9 := Lean.mkIdent `c9
  let c10 := Lean.mkIdent `c10
  let c11 := Lean.mkIdent `c11
  let c12 := Lean.mkIdent `c12
  let c13 := Lean.mkIdent `c13
  let c14 := Lean.mkIdent `c14
  let c15 := Lean.mkIdent `c15
  let c16 := Lean.mkIdent `c16
  `(tactic| (with_reducible first | apply $c1 | apply $c2 | apply $c3 | apply $c4 | apply $c5 | apply $c6 | apply $c7 | apply $c8 | apply $c9 | apply $c10 | apply $c11 | apply $c12 | apply $c13 | apply $c14 | apply $c15 | apply $c16))
local macro_rules | `(tactic| walk_at "fs_var") => `(tactic| (repeat (first | (with_reducible exact Fk.InCtx.here) | (with_reducible apply Fk.InCtx.there))))
local macro_rules | `(tactic| walk_at "fs_set") => `(tactic| (repeat (first | (with_reducible exact Fk.SetCtx.here) | (with_reducible apply Fk.SetCtx.there))))
local macro_rules | `(tactic| walk_at "fs_le") => `(tactic| (first | with_reducible exact Fk.Rel.le.refl _ | with_reducible exact Fk.le_own0 | with_reducible exact Fk.le_own1 | with_reducible apply Fk.le_ownT | with_reducible exact Fk.own_th | with_reducible exact Fk.told_th | with_reducible exact Fk.le_tnum | with_reducible apply Fk.le_toldT | with_reducible exact Fk.le_thI | with_reducible exact Fk.le_thB | with_reducible exact Fk.le_thN | with_reducible exact Fk.le_thS | with_reducible exact Fk.le_thL | with_reducible exact Fk.le_thD | with_reducible apply Fk.le_th2 | with_reducible apply Fk.le_th3 | exact Fk.Rel.le.refl _))
local macro_rules | `(tactic| walk_at "fs_op") => `(tactic| (first
  | with_reducible exact Fk.o_add | with_reducible exact Fk.o_sub | with_reducible exact Fk.o_lt | with_reducible exact Fk.o_le | with_reducible exact Fk.o_gt | with_reducible exact Fk.o_ge | with_reducible exact Fk.o_eqI | with_reducible exact Fk.o_neI | with_reducible exact Fk.o_eqB | with_reducible exact Fk.o_neB | with_reducible exact Fk.o_isB | with_reducible exact Fk.o_nisB | with_reducible exact Fk.o_leT | with_reducible exact Fk.o_Tle | with_reducible exact Fk.o_Tge | with_reducible exact Fk.o_addIT | with_reducible exact Fk.o_addTI | with_reducible exact Fk.o_leIT | with_reducible exact Fk.o_leTI
  | with_reducible apply Fk.o_cat5 | with_reducible apply Fk.o_catI | with_reducible apply Fk.o_catL | with_reducible apply Fk.o_catSL | with_reducible apply Fk.o_mul | with_reducible apply Fk.o_mod | with_reducible apply Fk.o_div | with_reducible apply Fk.o_pow
  | (with_reducible apply Fk.in_own01 (by with_reducible assumption)) | (with_reducible apply Fk.eq_told (by with_reducible assumption)) | (with_reducible apply Fk.ne_told (by with_reducible assumption)) | (with_reducible apply Fk.eq_toldI (by with_reducible assumption)) | (with_reducible apply Fk.eq_own (by with_reducible assumption)) | (with_reducible apply Fk.ne_own (by with_reducible assumption)) | (with_reducible apply Fk.eq_own0 (by with_reducible assumption)) | (with_reducible apply Fk.eq_own1 (by with_reducible assumption)) | (with_reducible apply Fk.ne_own0 (by with_reducible assumption)) | (with_reducible apply Fk.ne_own1 (by with_reducible assumption))))
local macro_rules | `(tactic| walk_at "fs_cb") => `(tactic| (first
  | with_reducible exact Fk.isi_own_tup (by with_reducible assumption) | with_reducible exact Fk.isi_own_bool (by with_reducible assumption)
  | with_reducible exact Fk.isi_th_tup (by with_reducible assumption) | with_reducible exact Fk.isi_th_int (by with_reducible assumption) | with_reducible exact Fk.isi_th_bl (by with_reducible assumption) | with_reducible exact Fk.isi_bl_bl (by with_reducible assumption)
  | with_reducible exact Fk.len_th (by with_reducible assumption) rfl | with_reducible exact Fk.len_ints (by with_reducible assumption) | with_reducible exact Fk.len_lst (by with_reducible assumption) | with_reducible exact Fk.len_tupR (by with_reducible assumption)
  | with_reducible exact Fk.isi_told_tup (by with_reducible assumption) | with_reducible exact Fk.isi_int_tup (by with_reducible assumption)
  | with_reducible exact Fk.cb_max2 (by with_reducible assumption) (Fk.Body.calm (by with_reducible assumption)) | with_reducible exact Fk.cb_min2 (by with_reducible assumption) (Fk.Body.calm (by with_reducible assumption)) | with_reducible exact Fk.cb_max2T (by with_reducible assumption) (Fk.Body.calm (by with_reducible assumption))
  | with_reducible exact Fk.cb_maxP (by with_reducible assumption) (Fk.Body.calm (by with_reducible assumption)) (by with_reducible assumption) | with_reducible exact Fk.cb_all (by with_reducible assumption) (Fk.Body.calm (by with_reducible assumption))
  | with_reducible apply Fk.cb_max (by with_reducible assumption) (Fk.Body.calm (by with_reducible assumption)) | with_reducible apply Fk.cb_min (by with_reducible assumption) (Fk.Body.calm (by with_reducible assumption))))
local macro_rules | `(tactic| walk_at "fs_ix") => `(tactic| (first | with_reducible exact Fk.ix_ownL | with_reducible exact Fk.ix_ownR | with_reducible exact Fk.ix_pairL | with_reducible exact Fk.ix_pairR | with_reducible exact Fk.ix_triA | with_reducible exact Fk.ix_triL | with_reducible exact Fk.ix_triR | with_reducible exact Fk.ix_toldA | with_reducible exact Fk.ix_toldL | with_reducible exact Fk.ix_toldR | with_reducible apply Fk.ix_two | with_reducible exact Fk.ix_ints0 | with_reducible apply Fk.ix_ints | with_reducible apply Fk.ix_getD | with_reducible apply Fk.ix_tupR | with_reducible apply Fk.ix_sq))
local macro_rules | `(tactic| walk_at "fs_e") => `(tactic| (first
  | with_reducible exact Fk.ev_int | with_reducible exact Fk.ev_bl | with_reducible exact Fk.ev_str | with_reducible exact Fk.ev_non
  | (apply Fk.ev_var (hd := by decide) (hcd := by decide); walk_at "fs_var"; done)
  | (apply Fk.ev_ty (by with_reducible assumption) (hv := by first | exact Fk.boot_tuple | exact Fk.boot_int | exact Fk.boot_bool | exact Fk.boot_str | exact Fk.boot_list) (hg := Fk.gl_of (by with_reducible assumption) (by decide +kernel)) (hn := by decide) (hd := by decide))
  | apply Fk.ev_bin
  | (apply Fk.ev_cmp (hm := by first | exact L2.nomark _ | rfl))
  | (apply Fk.ev_chain (hm := by with_unfolding_all rfl))
  | apply Fk.ev_and | apply Fk.ev_or | apply Fk.ev_one | apply Fk.ev_not | apply Fk.ev_neg
  | apply Fk.ev_ifExp
  | with_reducible exact Fk.ev_dict0
  | apply Fk.ev_tup | apply Fk.ev_lst
  | (apply Fk.ev_call (hg := Fk.gl_of (by with_reducible assumption) (by decide +kernel)) (hdb := by decide) (he := by rfl) (hpl := by rfl); walk_at "fs_call")
  | (apply Fk.ev_callB (hg := Fk.gl_of (by with_reducible assumption) (by decide +kernel)) (hn := by decide) (hdb := by decide) (he := by rfl) (hpl := by rfl))
  | (apply Fk.ev_count (hbase := by rfl) (hfew := by rfl) (hline := by rfl) (hs := by rfl) (hplain := by rfl))
  | (apply Fk.ev_lcI (B := by with_reducible assumption) (hx := by decide +kernel) (hs := by intro _; rfl))
  | apply Fk.ev_cutToI | apply Fk.ev_cutFromI
  | (apply Fk.ev_ix (hs := fun _ _ => rfl))))
local macro_rules | `(tactic| walk_at "fs_t") => `(tactic| (first
  | apply Fk.tv_not | (apply Fk.tv_cmp (hm := by first | exact L2.nomark _ | rfl)) | (apply Fk.tv_chain (hm := by with_unfolding_all rfl)) | (apply Fk.tv_w; first | apply Fk.wv_and | apply Fk.wv_or) | (apply Fk.tv_val (he := by intro _; rfl))))
local macro_rules | `(tactic| walk_at "fs_b") => `(tactic| (first
  | apply Fk.bv_ret
  | (apply Fk.bv_set (by with_reducible assumption) (hx := Fk.nn_of (by with_reducible assumption) (by decide +kernel)) (hs := by rfl))
  | (apply Fk.bv_setLcI (B := by with_reducible assumption) (hx := by decide +kernel) (hyl := Fk.lc_local (by with_reducible assumption) (by decide +kernel)) (hk := Fk.kind_of (by with_reducible assumption) (by decide +kernel)) (hln := by rfl) (hany := by decide) (hs := by intro _; rfl))
  | (apply Fk.bv_tup2 (hs := by rfl) (hw := by rfl) (h1 := by rfl))
  | apply Fk.bv_ifr (t := [PySem.Stmt.Return _ _])
  | apply Fk.bv_if
  | exact Fk.bv_nil
  | (apply Fk.bv_expr (hs := by rfl))))
local macro_rules | `(tactic| walk_at "fs1") => `(tactic| (first
  | ((with_reducible show Fk.Bv _ _ _ _ _ _); walk_at "fs_b")
  | ((with_reducible show Fk.Ev _ _ _ _ _); walk_at "fs_e")
  | ((with_reducible show Fk.Tv _ _ _ _ _); walk_at "fs_t")
  | ((with_reducible show Fk.Wv _ _ _ _ _); first | apply Fk.wv_and | apply Fk.wv_or | apply Fk.wv_and1 | apply Fk.wv_or1)
  | ((with_reducible show Fk.Av _ _ _ _ _); first | exact Fk.av_nil | apply Fk.av_cons (hs := by rfl))
  | ((with_reducible show Fk.Op2 _ _ _ _ _); walk_at "fs_op")
  | ((with_reducible show Fk.CallB _ _ _ _); walk_at "fs_cb")
  | ((with_reducible show Fk.IxOk _ _ _ _); walk_at "fs_ix")
  | ((with_reducible show Fk.Turn _ _ _ _ _ _ _ _); apply Fk.turn_mk)
  | ((with_reducible show Fk.Gv _ _ _ _ _ _ _); first | (apply Fk.gv_name (hs := Fk.Body.sto (by with_reducible assumption) (by simp only [*]; decide) (Fk.nn_of (by with_reducible assumption) (by decide +kernel))) (hd := Fk.Body.nd (by with_reducible assumption))) | (apply Fk.gv_tup2 (hc := Fk.Body.calm (by with_reducible assumption)) (hs1 := by rfl) (hs2 := by rfl) (hn := by rfl) (hst := by rfl)))
  | ((with_reducible show Fk.SetCtx _ _ _ _ _); (walk_at "fs_set"; done))
  | (with_reducible (refine fun n : Int => (?_ : Fk.SetCtx _ _ _ _ _)))
  | ((with_reducible show L2.BlkOk _ _ _ _); exact Fk.blk_of (by with_reducible assumption) (by with_reducible assumption) (by decide +kernel))
  | ((with_reducible show Fk.CtxBlk _ _ _ _); first | exact Fk.CtxBlk.nil | apply Fk.CtxBlk.some (hv := by first | exact Or.inl (by decide +kernel) | exact Or.inr (Or.inl (by decide +kernel)) | exact Or.inr (Or.inr (by decide +kernel))) (ho := by decide +kernel) | apply Fk.CtxBlk.none)
  | (with_reducible (refine fun (nn : Int) hnn (X' : L2.Cx) (bX : Fk.InBlk _ X' _) => (?_ : Fk.Ev X' _ _ _ _)))
  | ((with_reducible show Fk.ArgsLe _ _); first | exact Fk.ArgsLe.nil | apply Fk.ArgsLe.cons)
  | ((with_reducible show Fk.Rel.le _ _); walk_at "fs_le")
  | ((with_reducible show List.length _ ≤ 1000); exact Nat.le_of_ble_eq_true rfl)
  | (refine fun (hc : _ = (_ : Bool)) => ?_; first | contradiction | (cases hc; done) | (exfalso; simp at hc; done) | skip)))
local macro_rules | `(tactic| walk_at "fs") => `(tactic| ((repeat' walk_at "fs1"); all_goals (try (first | exact True.intro | exact (true : Bool) | exact Fk.nonR | exact ([] : List Fk.Rel) | exact ([] : Fk.Ctx) | exact (0 : Nat)))))
local macro_rules | `(tactic| walk_at "fd") => `(tactic| (simp only [Fk.Own.depth, Fk.Th.depth] at *; omega))
local macro_rules | `(tactic| walk_at "fa1") => `(tactic| (first
  | (show L2.CMul _ _; first | exact Or.inr ⟨by decide, by decide⟩ | exact Or.inl ⟨by decide, by decide⟩ | exact Or.inl ⟨by omega, by omega⟩ | exact Or.inr ⟨by omega, by omega⟩)
  | (show L2.CDiv _ _; first | exact ⟨by decide, by decide⟩ | exact ⟨by omega, by omega⟩)
  | (show L2.CPow _ _; exact ⟨by decide, by decide, by decide⟩)
  | omega | (show _ ≤ PySem.sizeLine; refine Fk.small ?_; omega) | (simp only [Fk.Own.depth, Fk.Th.depth]; omega) | decide))
local macro_rules | `(tactic| walk_at "fa") => `(tactic| (all_goals (try walk_at "fa1")))
local macro_rules | `(tactic| walk_at "fctx") => `(tactic| (repeat (first | exact Fk.CtxLe.nil | apply Fk.CtxLe.none | apply Fk.CtxLe.some (Fk.Rel.le.refl _) | (refine Fk.CtxLe.some ?_ ?_; rotate_left))))
local macro_rules | `(tactic| walk_at "fsn") => `(tactic| (repeat' walk_at "fs1"))
namespace Fk
open PySem L2
/-! ### the least form -/
def Own.paired (l r : Own) : Own := if l = r ∧ l.isNode = false then l else .node l r
def Own.least : Own → Own
  | .leaf b => .leaf b
  | .node l r => l.least.paired r.least
theorem Own.paired_depth (l r : Own) : (l.paired r).depth ≤ max l.depth r.depth + 1 := by
  unfold Own.paired
  split
  · omega
  · exact Nat.le_refl _
theorem Own.least_depth : ∀ o : Own, o.least.depth ≤ o.depth
  | .leaf _ => Nat.le_refl _
  | .node l r => by
    have h1 := Own.paired_depth l.least r.least
    have h2 := Own.least_depth l
    have h3 := Own.least_depth r
    show (l.least.paired r.least).depth ≤ max l.depth r.depth + 1
    omega
def Th.toOwn : Th → Option Own
  | .int i => if i = 0 then some (.leaf false) else if i = 1 then some (.leaf true) else none
  | .pair l r => match l.toOwn, r.toOwn with
    | some a, some b => some (.node a b)
    | _, _ => none
  | _ => none
def Th.isOwn (t : Th) : Bool := t.toOwn.isSome
theorem Th.own_of : ∀ {t : Th} {o : Own}, t.toOwn = some o → t = o.th
  | .int i, o, h => by
    unfold Th.toOwn at h
    split at h
    · cases h; subst_vars; rfl
    · split at h
      · cases h; subst_vars; rfl
      · cases h
  | .pair l r, o, h => by
    unfold Th.toOwn at h
    split at h
    · rename_i a b e1 e2
      cases h
      rw [Th.own_of e1, Th.own_of e2]
      rfl
    · cases h
  | .bl _, o, h => by simp [Th.toOwn] at h
  | .oth, o, h => by simp [Th.toOwn] at h
  | .tri _ _ _, o, h => by simp [Th.toOwn] at h
  | .tupn _, o, h => by simp [Th.toOwn] at h
theorem Own.th_own : ∀ o : Own, o.th.toOwn = some o
  | .leaf true => rfl
  | .leaf false => rfl
  | .node l r => by simp [Own.th, Th.toOwn, Own.th_own l, Own.th_own r]
theorem Own.th_isOwn (o : Own) : o.th.isOwn = true := by unfold Th.isOwn; rw [o.th_own]; rfl
theorem Th.isOwn_iff {t : Th} (h : t.isOwn = true) : ∃ o : Own, t = o.th := by
  unfold Th.isOwn at h
  cases e : t.toOwn with
  | none => rw [e] at h; cases h
  | some o => exact ⟨o, Th.own_of e⟩
theorem Th.isOwn_pair (l r : Th) : (Th.pair l r).isOwn = (l.isOwn && r.isOwn) := by
  unfold Th.isOwn
  show (match l.toOwn, r.toOwn with | some a, some b => some (Own.node a b) | _, _ => none).isSome = _
  cases l.toOwn <;> cases r.toOwn <;> rfl
theorem Th.isOwn_int (i : Int) : (Th.int i).isOwn = (decide (0 ≤ i) && decide (i ≤ 1)) := by
  unfold Th.isOwn Th.toOwn
  by_cases h0 : i = 0
  · subst h0; rfl
  · by_cases h1 : i = 1
    · subst h1; rfl
    · rw [if_neg h0, if_neg h1]
      by_cases h2 : 0 ≤ i
      · have h3 : ¬ i ≤ 1 := by omega
        simp [h2, h3]
      · simp [h2]
def Th.isLeastOwn (t : Th) : Bool := match t.toOwn with
  | some o => decide (o.least = o)
  | none => false
/-! ### the defs -/
def Th.isWhole : Th → Bool
  | .int _ => true
  | _ => false
section
variable {P : Program} {w : World} {K : PySem.W.Frag} {mg : Str → Option Value} {base : Heap}
end
end Fk

namespace Fk
open PySem L2
/-! ### draws -/
def mixed (c k : Int) : Int := ((c % 10 ^ 60 + 17) * 48271 % 2147483647 + 5 * k) * (16807 + 1033 * k * k) % 2147483629 / 4
theorem mixed_nn (c k : Int) : 0 ≤ mixed c k := by
  unfold mixed
  have h := Int.emod_nonneg (((c % 10 ^ 60 + 17) * 48271 % 2147483647 + 5 * k) * (16807 + 1033 * k * k)) (show (2147483629 : Int) ≠ 0 by decide)
  omega
theorem mixed_lt (c k : Int) : mixed c k < 600000000 := by
  unfold mixed
  have h := Int.emod_lt_of_pos (((c % 10 ^ 60 + 17) * 48271 % 2147483647 + 5 * k) * (16807 + 1033 * k * k)) (show (0 : Int) < 2147483629 by decide)
  omega
def genOwn : Nat → Int → Own
  | 0, n => .leaf (decide (n % 2 = 1))
  | d + 1, n => if n % 5 < 2 then .leaf (decide (n % 2 = 1)) else .node (genOwn d (n / 5 * 16807 % 1000003)) (genOwn d (n / 5 * 48271 % 1000033))
theorem genOwn_depth : ∀ (d : Nat) (n : Int), (genOwn d n).depth ≤ d
  | 0, n => Nat.le_refl _
  | d + 1, n => by
    unfold genOwn
    split
    · exact Nat.zero_le _
    · have h1 := genOwn_depth d (n / 5 * 16807 % 1000003)
      have h2 := genOwn_depth d (n / 5 * 48271 % 1000033)
      simp only [Own.depth]
      omega
theorem le_mod2 {n : Int} : (intR (n % 2)).le (ownR (.leaf (decide (n % 2 = 1)))) := fun v H h => by
  have e : V.int (n % 2) = V.int (bi (decide (n % 2 = 1))) := by
    by_cases q : n % 2 = 1
    · rw [decide_eq_true q, q]; rfl
    · rw [decide_eq_false q, show n % 2 = 0 by omega]; rfl
  exact Eq.trans (show v = V.int (n % 2) from h) e
section
variable {P : Program} {w : World} {K : PySem.W.Frag} {mg : Str → Option Value} {base : Heap}
abbrev D_mixed (P : Program) (w : World) (K : PySem.W.Frag) (mg : Str → Option Value) (base : Heap) : Prop := DefOk P w K mg base "_law_mixed" CX0 1 ["_law_cell", "_law_k"] [] (spF (fun t : Int × Int => [intR t.1, intR t.2]) (fun t => 0 ≤ t.2 ∧ t.2 < 128) (fun t => intR (mixed t.1 t.2)))
theorem sc_mixed : FnScope ["_law_cell", "_law_k", "_law_mixed_here"] ["_law_cell", "_law_k"] (defScope s__law_mixed) := ⟨rfl, rfl, rfl, by decide +kernel, rfl, by decide +kernel, by decide +kernel⟩
theorem ok_mixed (F : DefAt K mg "_law_mixed" s__law_mixed) : D_mixed P w K mg base := by
  refine pure_ok F sc_mixed (loc_of (by decide +kernel)) (fun _ => rfl) (fun _ _ _ _ _ _ us hl => match us, hl with | [_, _], _ => rfl) ?_
  rintro ⟨c, k⟩ X H0 ⟨h1, h2⟩ B rfl rfl rfl rfl rfl hsc hN hr
  have hu := hr.units
  simp only at h1 h2
  refine ⟨none, ?_, fun C e => nomatch e⟩
  dsimp only [ctx0]
  walk_at "fs"
  walk_at "fa"
theorem call_mixed {X : Cx} {k : Nat} (d : D_mixed X.prog X.w X.K X.mg X.base) (hr : Room k X.A) (hk : 1 ≤ k) (c j : Int) (h1 : 0 ≤ j) (h2 : j < 128) : CallOk X "_law_mixed" [intR c, intR j] (intR (mixed c j)) := d.at (hr.mono hk) (c, j) ⟨h1, h2⟩

end
/-! ### places -/
def places : Nat → Own → List Int
  | 0, .leaf b => [bi b]
  | 0, .node _ _ => []
  | d + 1, .leaf b => places d (.leaf b) ++ places d (.leaf b)
  | d + 1, .node l r => places d l ++ places d r
theorem places_length : ∀ (d : Nat) (o : Own), o.depth ≤ d → (places d o).length = 2 ^ d
  | 0, .leaf b, _ => rfl
  | 0, .node _ _, h => by simp [Own.depth] at h
  | d + 1, .leaf b, _ => by
    have q := places_length d (.leaf b) (Nat.zero_le _)
    simp only [places, List.length_append, q, Nat.pow_succ]
    omega
  | d + 1, .node l r, h => by
    simp only [Own.depth] at h
    have q1 := places_length d l (by omega)
    have q2 := places_length d r (by omega)
    simp only [places, List.length_append, q1, q2, Nat.pow_succ]
    omega
theorem places_bit : ∀ (d : Nat) (o : Own) (n : Int), n ∈ places d o → n = 0 ∨ n = 1
  | 0, .leaf b, n, h => by
    simp only [places, List.mem_singleton] at h
    subst h
    cases b
    · exact .inl rfl
    · exact .inr rfl
  | 0, .node _ _, _, h => by simp [places] at h
  | d + 1, .leaf b, n, h => by
    simp only [places, List.mem_append] at h
    rcases h with h | h <;> exact places_bit d _ n h
  | d + 1, .node l r, n, h => by
    simp only [places, List.mem_append] at h
    rcases h with h | h <;> exact places_bit d _ n h
/-- the least own part that has just these places -/
def ownOf : Nat → List Int → Own
  | 0, ns => .leaf (decide (ns.headD 0 = 1))
  | d + 1, ns => if ns.count (ns.headD 0) = ns.length then .leaf (decide (ns.headD 0 = 1)) else .node (ownOf d (ns.take (ns.length / 2))) (ownOf d (ns.drop (ns.length / 2)))
theorem ownOf_depth : ∀ (d : Nat) (ns : List Int), (ownOf d ns).depth ≤ d
  | 0, _ => Nat.le_refl _
  | d + 1, ns => by
    unfold ownOf
    split
    · exact Nat.zero_le _
    · have h1 := ownOf_depth d (ns.take (ns.length / 2))
      have h2 := ownOf_depth d (ns.drop (ns.length / 2))
      simp only [Own.depth]
      omega
theorem le_bit {n : Int} (h : n = 0 ∨ n = 1) : (intR n).le (ownR (.leaf (decide (n = 1)))) := by
  rcases h with rfl | rfl
  · exact le_own0
  · exact le_own1
section
variable {P : Program} {w : World} {K : PySem.W.Frag} {mg : Str → Option Value} {base : Heap}
end
end Fk

namespace Fk
open PySem L2
def Th.isNum : Th → Bool
  | .int i => decide (0 ≤ i)
  | _ => false
def Th.toTold : Th → Option Told
  | .int i => if 0 ≤ i then some (.num i) else none
  | .tri (.int a) l r => if 0 ≤ a then match l.toTold, r.toTold with
    | some s, some t => some (.node a s t)
    | _, _ => none else none
  | _ => none
def Th.isTold : Th → Bool
  | .int i => decide (0 ≤ i)
  | .tri a l r => a.isNum && (l.isTold && r.isTold)
  | _ => false
theorem Told.th_isTold : ∀ {t : Told}, t.nn = true → t.th.isTold = true
  | .num i, h => h
  | .node a l r, h => by
    simp only [Told.nn, Bool.and_eq_true] at h
    simp [Told.th, Th.isTold, Th.isNum, Told.th_isTold h.1.2, Told.th_isTold h.2]
    simpa using h.1.1
section
variable {P : Program} {w : World} {K : PySem.W.Frag} {mg : Str → Option Value} {base : Heap}
abbrev D_lifted (P : Program) (w : World) (K : PySem.W.Frag) (mg : Str → Option Value) (base : Heap) : Prop := DefOk P w K mg base "lifted" CX0 1 ["told", "more"] [] (spF (fun a : Told × Int => [toldR a.1, intR a.2]) (fun _ => True) (fun a => toldR (a.1.lift a.2)))
theorem sc_lifted : FnScope ["told", "more"] ["told", "more"] (defScope s_lifted) := ⟨rfl, rfl, rfl, by decide +kernel, rfl, by decide +kernel, by decide +kernel⟩
theorem ok_lifted (F : DefAt K mg "lifted" s_lifted) (m1 : mg "isinstance" = none) (m2 : mg "tuple" = none) : D_lifted P w K mg base := by
  refine pure_ok F sc_lifted (loc_of (by decide +kernel)) (fun _ => rfl) (fun _ _ _ _ _ _ us hl => match us, hl with | [_, _], _ => rfl) ?_
  rintro ⟨t, m⟩ X H0 _ B rfl rfl rfl rfl rfl hsc hN hr
  have hu := hr.units
  refine ⟨none, ?_, fun C e => nomatch e⟩
  dsimp only [ctx0]
  cases t <;> walk_at "fs"
  exact le_toldT (.refl _) (.refl _) (.refl _)
theorem call_lifted {X : Cx} {k : Nat} (d : D_lifted X.prog X.w X.K X.mg X.base) (hr : Room k X.A) (hk : 1 ≤ k) (t : Told) (m : Int) : CallOk X "lifted" [toldR t, intR m] (toldR (t.lift m)) := d.at (hr.mono hk) (t, m) trivial

abbrev D_base (P : Program) (w : World) (K : PySem.W.Frag) (mg : Str → Option Value) (bs : Heap) : Prop := DefOk P w K mg bs "base" CX0 1 ["told"] [] (spF (fun t : Told => [toldR t]) (fun _ => True) (fun t => intR t.base))
theorem sc_base : FnScope ["told"] ["told"] (defScope s_base) := ⟨rfl, rfl, rfl, by decide +kernel, rfl, by decide +kernel, by decide +kernel⟩
theorem ok_base (F : DefAt K mg "base" s_base) (m1 : mg "isinstance" = none) (m2 : mg "tuple" = none) : D_base P w K mg base := by
  refine pure_ok F sc_base (loc_of (by decide +kernel)) (fun _ => rfl) (fun _ _ _ _ _ _ us hl => match us, hl with | [_], _ => rfl) ?_
  rintro t X H0 _ B rfl rfl rfl rfl rfl hsc hN hr
  have hu := hr.units
  refine ⟨none, ?_, fun C e => nomatch e⟩
  dsimp only [ctx0]
  cases t <;> walk_at "fs"
theorem call_base {X : Cx} {k : Nat} (d : D_base X.prog X.w X.K X.mg X.base) (hr : Room k X.A) (hk : 1 ≤ k) (t : Told) : CallOk X "base" [toldR t] (intR t.base) := d.at (hr.mono hk) t trivial

abbrev D_told_least (P : Program) (w : World) (K : PySem.W.Frag) (mg : Str → Option Value) (bs : Heap) : Prop := DefOk P w K mg bs "told_least" CX0 2 ["told"] [] (spF (fun t : Told => [toldR t]) (fun _ => True) (fun t => intR t.base))
theorem sc_told_least : FnScope ["told"] ["told"] (defScope s_told_least) := ⟨rfl, rfl, rfl, by decide +kernel, rfl, by decide +kernel, by decide +kernel⟩
theorem ok_told_least (F : DefAt K mg "told_least" s_told_least) (d : D_base P w K mg base) : D_told_least P w K mg base := by
  refine pure_ok F sc_told_least (loc_of (by decide +kernel)) (fun _ => rfl) (fun _ _ _ _ _ _ us hl => match us, hl with | [_], _ => rfl) ?_
  rintro t X H0 _ B rfl rfl rfl rfl rfl hsc hN hr
  have hu := hr.units
  have c1 := call_base d hr (by omega)
  refine ⟨none, ?_, fun C e => nomatch e⟩
  dsimp only [ctx0]
  walk_at "fs"
theorem call_told_least {X : Cx} {k : Nat} (d : D_told_least X.prog X.w X.K X.mg X.base) (hr : Room k X.A) (hk : 2 ≤ k) (t : Told) : CallOk X "told_least" [toldR t] (intR t.base) := d.at (hr.mono hk) t trivial

abbrev D_spread (P : Program) (w : World) (K : PySem.W.Frag) (mg : Str → Option Value) (bs : Heap) : Prop := DefOk P w K mg bs "spread" CX0 2 ["number", "left", "right"] [] (spF (fun a : Int × Told × Told => [intR a.1, toldR a.2.1, toldR a.2.2]) (fun a => a.2.1.depth ≤ 64 ∧ a.2.2.depth ≤ 64) (fun a => toldR (Told.spread a.1 a.2.1 a.2.2)))
theorem sc_spread : FnScope ["number", "left", "right", "least"] ["number", "left", "right"] (defScope s_spread) := ⟨rfl, rfl, rfl, by decide +kernel, rfl, by decide +kernel, by decide +kernel⟩
theorem ok_spread (F : DefAt K mg "spread" s_spread) (d1 : D_lifted P w K mg base) (d2 : D_base P w K mg base) (m1 : mg "isinstance" = none) (m2 : mg "tuple" = none) (m3 : mg "min" = none) : D_spread P w K mg base := by
  refine pure_ok F sc_spread (loc_of (by decide +kernel)) (fun _ => rfl) (fun _ _ _ _ _ _ us hl => match us, hl with | [_, _, _], _ => rfl) ?_
  rintro ⟨n, l, r⟩ X H0 ⟨h1, h2⟩ B rfl rfl rfl rfl rfl hsc hN hr
  have hu := hr.units
  have c1 := call_lifted d1 hr (by omega)
  have c2 := call_base d2 hr (by omega)
  simp only at h1 h2
  refine ⟨none, ?_, fun C e => nomatch e⟩
  dsimp only [ctx0]
  have key : ∀ {u : Bool}, u = (decide (l = r) && !l.isNode) → u = false → (tupR [intR (n + min l.base r.base), toldR (l.lift (-(min l.base r.base))), toldR (r.lift (-(min l.base r.base)))]).le (toldR (Told.spread n l r)) := fun e e2 => by
    rw [e2] at e
    have h : ¬ (l = r ∧ l.isNode = false) := fun q => by rw [decide_eq_true q.1, q.2] at e; cases e
    unfold Told.spread
    rw [if_neg h]
    exact le_toldT (.refl _) (.refl _) (.refl _)
  cases l with
  | num i =>
    walk_at "fs"
    · exact h1
    · exact h2
    · rename_i hc
      simp only [Told.isNode, Bool.not_false, Bool.and_true, decide_eq_true_eq] at hc
      unfold Told.spread
      rw [if_pos ⟨hc, rfl⟩]
      exact le_tnum
    · rename_i hc
      exact key rfl hc
  | node a ll lr =>
    walk_at "fs"
    · exact h1
    · exact h2
    · rename_i hc
      simp [Told.isNode] at hc
    · rename_i hc
      exact key rfl hc
theorem call_spread {X : Cx} {k : Nat} (d : D_spread X.prog X.w X.K X.mg X.base) (hr : Room k X.A) (hk : 2 ≤ k) (n : Int) (l r : Told) (h1 : l.depth ≤ 64) (h2 : r.depth ≤ 64) : CallOk X "spread" [intR n, toldR l, toldR r] (toldR (Told.spread n l r)) := d.at (hr.mono hk) (n, l, r) ⟨h1, h2⟩

abbrev D_told_greatest (n : Nat) (P : Program) (w : World) (K : PySem.W.Frag) (mg : Str → Option Value) (base : Heap) : Prop := DefOk P w K mg base "told_greatest" CX0 (n + 1) ["told"] [] (spF (fun t : Told => [toldR t]) (fun t => True ∧ t.depth < n) (fun t => intR t.greatest))
theorem sc_told_greatest : FnScope ["told"] ["told"] (defScope s_told_greatest) := ⟨rfl, rfl, rfl, by decide +kernel, rfl, by decide +kernel, by decide +kernel⟩
theorem ok_told_greatest (F : DefAt K mg "told_greatest" s_told_greatest) (m1 : mg "isinstance" = none) (m2 : mg "tuple" = none) (m3 : mg "max" = none) : ∀ n, D_told_greatest n P w K mg base := by
  refine pure_rec 0 Told.depth F sc_told_greatest (loc_of (by decide +kernel)) (fun _ => rfl) (fun _ _ _ _ _ _ us hl => match us, hl with | [_], _ => rfl) ?_
  rintro t X H0 _ ih B rfl rfl rfl rfl rfl hsc hN hr
  have hu := hr.units
  have c2 : ∀ t' : Told, t'.depth < t.depth → CallOk X "told_greatest" [toldR t'] (intR t'.greatest) := fun t' h => ih t' trivial h
  clear ih
  refine ⟨none, ?_, fun C e => nomatch e⟩
  dsimp only [ctx0]
  cases t with
  | num b =>
    walk_at "fs"
  | node a l r =>
    walk_at "fs"
    all_goals (simp only [Told.depth] at *; omega)
theorem call_told_greatest {X : Cx} {n k : Nat} (d : D_told_greatest n X.prog X.w X.K X.mg X.base) (hr : Room k X.A) (hk : n + 1 ≤ k) (t : Told) (h' : t.depth < n) : CallOk X "told_greatest" [toldR t] (intR t.greatest) := d.at (hr.mono hk) t ⟨trivial, h'⟩
end
end Fk

namespace Fk
open PySem L2
def amt (c m : Int) : Int := if m / 9 % 4 / 3 = 0 then m / 3 % 3 else c % 10 ^ 60
theorem amt_nn (c m : Int) : 0 ≤ amt c m := by
  unfold amt
  split
  · omega
  · exact Int.emod_nonneg _ (by omega)
def genTold : Nat → Int → Int → Told
  | 0, c, n => .num (amt c (n / 5))
  | d + 1, c, n => if n % 5 < 2 then .num (amt c (n / 5)) else .node (amt c (n / 5)) (genTold d c (n / 5 * 16807 % 1000003)) (genTold d (c / 3) (n / 5 * 48271 % 1000033))
theorem genTold_depth : ∀ (d : Nat) (c n : Int), (genTold d c n).depth ≤ d
  | 0, _, _ => Nat.le_refl _
  | d + 1, c, n => by
    unfold genTold
    split
    · exact Nat.zero_le _
    · have h1 := genTold_depth d c (n / 5 * 16807 % 1000003)
      have h2 := genTold_depth d (c / 3) (n / 5 * 48271 % 1000033)
      simp only [Told.depth]
      omega
theorem genTold_nn : ∀ (d : Nat) (c n : Int), (genTold d c n).nn = true
  | 0, c, n => decide_eq_true (amt_nn c _)
  | d + 1, c, n => by
    unfold genTold
    split
    · exact decide_eq_true (amt_nn c _)
    · simp [Told.nn, amt_nn, genTold_nn d]
section
variable {P : Program} {w : World} {K : PySem.W.Frag} {mg : Str → Option Value} {base : Heap}
abbrev D_law_tree (n : Nat) (P : Program) (w : World) (K : PySem.W.Frag) (mg : Str → Option Value) (base : Heap) : Prop := DefOk P w K mg base "_law_tree" CX0 (n + 1) ["_law_cell", "_law_number", "_law_deep"] [] (spF (fun t : Int × Int × Nat => [intR t.1, intR t.2.1, intR (t.2.2 : Int)]) (fun t => 0 ≤ t.2.1 ∧ t.2.2 < n) (fun t => toldR (genTold t.2.2 t.1 t.2.1)))
theorem sc_law_tree : FnScope ["_law_cell", "_law_number", "_law_deep", "_law_more", "_law_amount", "_law_left"] ["_law_cell", "_law_number", "_law_deep"] (defScope s__law_tree) := ⟨rfl, rfl, rfl, by decide +kernel, rfl, by decide +kernel, by decide +kernel⟩
theorem ok_law_tree (F : DefAt K mg "_law_tree" s__law_tree) : ∀ n, D_law_tree n P w K mg base := by
  refine pure_rec (α := Int × Int × Nat) 0 (fun t => t.2.2) F sc_law_tree (loc_of (by decide +kernel)) (fun _ => rfl) (fun _ _ _ _ _ _ us hl => match us, hl with | [_, _, _], _ => rfl) ?_
  rintro ⟨c, n, d⟩ X H0 h1 ih B rfl rfl rfl rfl rfl hsc hN hr
  have hu := hr.units
  simp only at h1
  have c1 : ∀ (c' n' : Int) (d' : Int), 0 ≤ n' → 0 ≤ d' → d' < (d : Int) → CallOk X "_law_tree" [intR c', intR n', intR d'] (toldR (genTold d'.toNat c' n')) := fun c' n' d' h h2 h3 => by
    have z := ih (c', n', d'.toNat) h (by simp only; omega)
    simp only at z
    rw [Int.toNat_of_nonneg h2] at z
    exact z
  clear ih
  refine ⟨none, ?_, fun C e => nomatch e⟩
  dsimp only [ctx0]
  cases d with
  | zero =>
    walk_at "fs"
    walk_at "fa"
  | succ d =>
    have e : ((↑(d + 1) : Int) - 1).toNat = d := by omega
    walk_at "fs"
    walk_at "fa"
    · rename_i hc
      have q : n % 5 < 2 := by
        simp only [Bool.or_eq_true, decide_eq_true_eq] at hc
        omega
      unfold genTold
      rw [if_pos q]
      exact Rel.le.refl _
    · rename_i hc
      have q : ¬ n % 5 < 2 := by
        simp only [Bool.or_eq_false_iff, decide_eq_false_iff_not] at hc
        omega
      rw [e, show genTold (d + 1) c n = .node (amt c (n / 5)) (genTold d c (n / 5 * 16807 % 1000003)) (genTold d (c / 3) (n / 5 * 48271 % 1000033)) from by simp only [genTold, if_neg q]]
      exact le_toldT (.refl _) (.refl _) (.refl _)
theorem call_law_tree {X : Cx} {n k : Nat} (D : D_law_tree n X.prog X.w X.K X.mg X.base) (hr : Room k X.A) (hk : n + 1 ≤ k) (c j : Int) (d : Nat) (h1 : 0 ≤ j) (h3 : d < n) : CallOk X "_law_tree" [intR c, intR j, intR d] (toldR (genTold d c j)) := D.at (hr.mono hk) (c, j, d) ⟨h1, h3⟩

abbrev D_law_numbers (n : Nat) (P : Program) (w : World) (K : PySem.W.Frag) (mg : Str → Option Value) (base : Heap) : Prop := DefOk P w K mg base "_law_numbers" CX0 (n + 1) ["_law_told", "_law_deep"] [] (spF (fun t : Told × Nat => [toldR t.1, intR (t.2 : Int)]) (fun t => (t.1.depth ≤ t.2 ∧ t.2 ≤ 8) ∧ t.2 < n) (fun t => intsR (tvals t.2 t.1)))
theorem sc_law_numbers : FnScope ["_law_told", "_law_deep", "_law_number"] ["_law_told", "_law_deep"] (defScope s__law_numbers) := ⟨rfl, rfl, rfl, by decide +kernel, rfl, by decide +kernel, by decide +kernel⟩
theorem ok_law_numbers (F : DefAt K mg "_law_numbers" s__law_numbers) (m1 : mg "isinstance" = none) (m2 : mg "tuple" = none) : ∀ n, D_law_numbers n P w K mg base := by
  refine pure_rec (α := Told × Nat) 0 (fun t => t.2) F sc_law_numbers (loc_of (by decide +kernel)) (fun _ => rfl) (fun _ _ _ _ _ _ us hl => match us, hl with | [_, _], _ => rfl) ?_
  rintro ⟨o, d⟩ X H0 h1 ih B rfl rfl rfl rfl rfl hsc hN hr
  have hu := hr.units
  simp only at h1
  have c1 : ∀ (o' : Told) (d' : Int), o'.depth ≤ d'.toNat → 0 ≤ d' → d' < (d : Int) → CallOk X "_law_numbers" [toldR o', intR d'] (intsR (tvals d'.toNat o')) := fun o' d' h h2 h3 => by
    have z := ih (o', d'.toNat) ⟨h, by simp only; omega⟩ (by simp only; omega)
    simp only at z
    rw [Int.toNat_of_nonneg h2] at z
    exact z
  clear ih
  obtain ⟨hd, h8⟩ := h1
  refine ⟨none, ?_, fun C e => nomatch e⟩
  dsimp only [ctx0]
  cases d with
  | zero =>
    cases o with
    | num b =>
      walk_at "fs"
    | node a l r => simp [Told.depth] at hd
  | succ d =>
    have e : ((↑(d + 1) : Int) - 1).toNat = d := by omega
    have hp : 2 ^ d ≤ 128 := by
      have : d ≤ 7 := by omega
      exact Nat.le_trans (Nat.pow_le_pow_right (by decide) this) (by decide)
    have q := tvals_length d
    cases o with
    | num b =>
      walk_at "fs"
      all_goals try simp only [e, q]
      walk_at "fa"
      all_goals (try exact small (by omega))
      all_goals (try exact Rel.le.refl _)
      all_goals simp only [Told.depth]; omega
    | node a l r =>
      simp only [Told.depth] at hd
      walk_at "fs"
      all_goals try simp only [e, List.length_append, q]
      walk_at "fa"
      all_goals (try exact small (by omega))
      all_goals (try exact Rel.le.refl _)
theorem call_law_numbers {X : Cx} {n k : Nat} (D : D_law_numbers n X.prog X.w X.K X.mg X.base) (hr : Room k X.A) (hk : n + 1 ≤ k) (o : Told) (d : Nat) (h1 : o.depth ≤ d) (h3 : d < n) (h4 : d ≤ 8) : CallOk X "_law_numbers" [toldR o, intR (d : Int)] (intsR (tvals d o)) := D.at (hr.mono hk) (o, d) ⟨⟨h1, h4⟩, h3⟩

abbrev D_law_told_of (n : Nat) (P : Program) (w : World) (K : PySem.W.Frag) (mg : Str → Option Value) (base : Heap) : Prop := DefOk P w K mg base "_law_told_of" CX0 (n + 1) ["_law_numbers_here"] [] (spF (fun t : List Int × Nat => [intsR t.1]) (fun t => (t.1.length = 2 ^ t.2 ∧ t.2 ≤ 8) ∧ t.2 < n) (fun t => toldR (toldOf t.2 t.1)))
theorem sc_law_told_of : FnScope ["_law_numbers_here", "_law_least", "_law_half", "_law_rest", "_law_number"] ["_law_numbers_here"] (defScope s__law_told_of) := ⟨rfl, rfl, rfl, by decide +kernel, rfl, by decide +kernel, by decide +kernel⟩
theorem ok_law_told_of (F : DefAt K mg "_law_told_of" s__law_told_of) (m1 : mg "len" = none) (m2 : mg "min" = none) : ∀ n, D_law_told_of n P w K mg base := by
  refine pure_rec (α := List Int × Nat) 0 (fun t => t.2) F sc_law_told_of (loc_of (by decide +kernel)) (fun _ => rfl) (fun _ _ _ _ _ _ us hl => match us, hl with | [_], _ => rfl) ?_
  rintro ⟨ns, d⟩ X H0 h1 ih B rfl rfl rfl rfl rfl hsc hN hr
  have hu := hr.units
  obtain ⟨hl, h8⟩ := h1
  simp only at hl h8
  have c1 : ∀ (ms : List Int) (d' : Nat), ms.length = 2 ^ d' → d' < d → CallOk X "_law_told_of" [intsR ms] (toldR (toldOf d' ms)) := fun ms d' h h3 => ih (ms, d') ⟨h, by simp only; omega⟩ h3
  clear ih
  have hne := ne_of_pow hl
  have hp : 2 ^ d ≤ 256 := Nat.le_trans (Nat.pow_le_pow_right (by decide) h8) (by decide)
  refine ⟨none, ?_, fun C e => nomatch e⟩
  dsimp only [ctx0]
  cases d with
  | zero =>
    match ns, hl with
    | [n], _ =>
      walk_at "fs"
      · exact hne
      all_goals (rename_i hc; simp [lmin] at hc)
  | succ d =>
    have c2 : ∀ ms : List Int, ms.length = 2 ^ d → CallOk X "_law_told_of" [intsR ms] (toldR (toldOf d ms)) := fun ms a => c1 ms d a (by omega)
    clear c1
    have e2 : ((ns.length : Int) / 2).toNat = ns.length / 2 := by omega
    have e3 : ns.length / 2 = 2 ^ d := by rw [hl, Nat.pow_succ]; omega
    have l1 : ((ns.map (· - lmin ns)).take (ns.length / 2)).length = 2 ^ d := by rw [List.length_take, List.length_map, e3, hl, Nat.pow_succ]; omega
    have l2 : ((ns.map (· - lmin ns)).drop (ns.length / 2)).length = 2 ^ d := by rw [List.length_drop, List.length_map, e3, hl, Nat.pow_succ]; omega
    walk_at "fs"
    all_goals try rw [e2]
    all_goals try assumption
    · rename_i hc
      have q : ns.count (lmin ns) = ns.length := Int.ofNat.inj (of_decide_eq_true hc)
      rw [show toldOf (d + 1) ns = .num (lmin ns) from if_pos q]
      exact le_tnum
    all_goals try (show (0 : Int) ≤ _; omega)
    all_goals try (show L2.CDiv _ _; exact ⟨by decide, by decide⟩)
    all_goals try (exact small (by omega))
    rename_i hc
    have q : ¬ ns.count (lmin ns) = ns.length := fun h => absurd (congrArg Int.ofNat h) (of_decide_eq_false hc)
    rw [show toldOf (d + 1) ns = .node (lmin ns) (toldOf d ((ns.map (· - lmin ns)).take (ns.length / 2))) (toldOf d ((ns.map (· - lmin ns)).drop (ns.length / 2))) from if_neg q]
    exact le_toldT (.refl _) (.refl _) (.refl _)
theorem call_law_told_of {X : Cx} {n k : Nat} (D : D_law_told_of n X.prog X.w X.K X.mg X.base) (hr : Room k X.A) (hk : n + 1 ≤ k) (d : Nat) (ns : List Int) (h1 : ns.length = 2 ^ d) (h3 : d < n) (h4 : d ≤ 8) : CallOk X "_law_told_of" [intsR ns] (toldR (toldOf d ns)) := D.at (hr.mono hk) (ns, d) ⟨⟨h1, h4⟩, h3⟩
end
end Fk

namespace Fk
open PySem L2
namespace Told
open Classical in
noncomputable def leB (a b : Told) : Bool := decide (∀ p, a.T p ≤ b.T p)
open Classical in
theorem leB_eq {a b : Told} {u : Bool} (h : (∀ p, a.T p ≤ b.T p) ↔ u = true) : leB a b = u := by
  unfold leB
  cases u with
  | true => exact decide_eq_true (h.mpr rfl)
  | false => exact decide_eq_false fun q => Bool.noConfusion (h.mp q)
open Classical in
theorem leB_iff {a b : Told} : leB a b = true ↔ ∀ p, a.T p ≤ b.T p := by
  unfold leB
  exact decide_eq_true_iff
theorem leB_num {i : Int} {b : Told} (n : b.Norm) : leB (num i) b = decide (i ≤ b.base) := leB_eq (by
  rw [decide_eq_true_iff]
  constructor
  · intro h
    obtain ⟨p, hp⟩ := base_at n
    have := h p
    rw [hp] at this
    exact this
  · intro h p
    exact Int.le_trans h (base_le n p))
theorem leB_to {j : Int} {a : Told} : leB a (num j) = decide (a.greatest ≤ j) := leB_eq (by
  rw [decide_eq_true_iff]
  constructor
  · intro h
    obtain ⟨p, hp⟩ := greatest_at a
    have := h p
    rw [hp] at this
    exact this
  · intro h p
    exact Int.le_trans (le_greatest a p) h)
theorem pl_eta (p : Pl) : pcons (p 0) p.shift = p := by
  funext n
  cases n <;> rfl
theorem leB_half (a b : Told) : leB a b = (leB a.left b.left && leB a.right b.right) := leB_eq (by
  rw [Bool.and_eq_true, leB_iff, leB_iff]
  constructor
  · intro h
    exact ⟨fun p => by rw [T_left, T_left]; exact h _, fun p => by rw [T_right, T_right]; exact h _⟩
  · intro h p
    have h1 := h.1 p.shift
    have h2 := h.2 p.shift
    rw [T_left, T_left] at h1
    rw [T_right, T_right] at h2
    have e := pl_eta p
    cases q : p 0 with
    | false => rw [q] at e; rw [e] at h1; exact h1
    | true => rw [q] at e; rw [e] at h2; exact h2)
/-- the greater one at each place -/
def joinF : Nat → Told → Told → Told
  | 0, a, b => num (max a.base b.base)
  | d + 1, a, b => spread 0 (joinF d a.left b.left) (joinF d a.right b.right)
theorem norm_joinF : ∀ (d : Nat) (a b : Told), (joinF d a b).Norm
  | 0, _, _ => trivial
  | d + 1, a, b => norm_spread (norm_joinF d _ _) (norm_joinF d _ _)
theorem T_joinF : ∀ (d : Nat) (a b : Told) (p : Pl), a.depth ≤ d → b.depth ≤ d → (joinF d a b).T p = max (a.T p) (b.T p)
  | 0, num i, num j, p, _, _ => rfl
  | 0, num _, node _ _ _, _, _, h => by simp [depth] at h
  | 0, node _ _ _, _, _, h, _ => by simp [depth] at h
  | d + 1, a, b, p, h1, h2 => by
    have l1 := left_depth a
    have l2 := left_depth b
    have r1 := right_depth a
    have r2 := right_depth b
    show (spread 0 _ _).T p = _
    rw [T_spread, T_joinF d _ _ _ (by omega) (by omega), T_joinF d _ _ _ (by omega) (by omega), T_left, T_left, T_right, T_right]
    have e := pl_eta p
    cases q : p 0 with
    | false => rw [q] at e; rw [e]; simp
    | true => rw [q] at e; rw [e]; simp
def join (a b : Told) : Told := joinF (max a.depth b.depth) a b
theorem norm_join (a b : Told) : (join a b).Norm := norm_joinF _ _ _
theorem T_join (a b : Told) (p : Pl) : (join a b).T p = max (a.T p) (b.T p) := T_joinF _ _ _ _ (Nat.le_max_left _ _) (Nat.le_max_right _ _)
theorem joinF_depth : ∀ (d : Nat) (a b : Told), (joinF d a b).depth ≤ d
  | 0, _, _ => Nat.le_refl _
  | d + 1, a, b => by
    have h := spread_depth 0 (joinF d a.left b.left) (joinF d a.right b.right)
    have h1 := joinF_depth d a.left b.left
    have h2 := joinF_depth d a.right b.right
    show (spread 0 _ _).depth ≤ _
    omega
theorem join_depth (a b : Told) : (join a b).depth ≤ max a.depth b.depth := joinF_depth _ _ _
theorem join_half (a b : Told) : spread 0 (join a.left b.left) (join a.right b.right) = join a b := uniq (norm_spread (norm_join _ _) (norm_join _ _)) (norm_join _ _) fun p => by
  rw [T_spread, T_join, T_join, T_join, T_left, T_left, T_right, T_right]
  have e := pl_eta p
  cases q : p 0 with
  | false => rw [q] at e; rw [e]; simp
  | true => rw [q] at e; rw [e]; simp
theorem join_num (i j : Int) : join (num i) (num j) = num (max i j) := rfl
end Told
section
variable {P : Program} {w : World} {K : PySem.W.Frag} {mg : Str → Option Value} {base : Heap}
abbrev D_halves (P : Program) (w : World) (K : PySem.W.Frag) (mg : Str → Option Value) (base : Heap) : Prop := DefOk P w K mg base "halves" CX0 2 ["told"] [] (spF (fun t : Told => [toldR t]) (fun _ => True) (fun t => tupR [toldR t.left, toldR t.right]))
theorem sc_halves : FnScope ["told"] ["told"] (defScope s_halves) := ⟨rfl, rfl, rfl, by decide +kernel, rfl, by decide +kernel, by decide +kernel⟩
theorem ok_halves (F : DefAt K mg "halves" s_halves) (d : D_lifted P w K mg base) (m1 : mg "isinstance" = none) (m2 : mg "tuple" = none) : D_halves P w K mg base := by
  refine pure_ok F sc_halves (loc_of (by decide +kernel)) (fun _ => rfl) (fun _ _ _ _ _ _ us hl => match us, hl with | [_], _ => rfl) ?_
  rintro t X H0 _ B rfl rfl rfl rfl rfl hsc hN hr
  have hu := hr.units
  have c1 := call_lifted d hr (by omega)
  refine ⟨none, ?_, fun C e => nomatch e⟩
  dsimp only [ctx0]
  cases t <;> walk_at "fs"
theorem call_halves {X : Cx} {k : Nat} (d : D_halves X.prog X.w X.K X.mg X.base) (hr : Room k X.A) (hk : 2 ≤ k) (t : Told) : CallOk X "halves" [toldR t] (tupR [toldR t.left, toldR t.right]) := d.at (hr.mono hk) t trivial

abbrev D_at_most (n : Nat) (P : Program) (w : World) (K : PySem.W.Frag) (mg : Str → Option Value) (base : Heap) : Prop := DefOk P w K mg base "at_most" CX0 (n + 67) ["one", "other"] [] (spF (fun t : Told × Told => [toldR t.1, toldR t.2]) (fun t => (t.2.Norm ∧ t.1.depth ≤ 64) ∧ max t.1.depth t.2.depth < n) (fun t => blR (t.1.leB t.2)))
theorem sc_at_most : FnScope ["one", "other", "left", "right", "other_left", "other_right"] ["one", "other"] (defScope s_at_most) := ⟨rfl, rfl, rfl, by decide +kernel, rfl, by decide +kernel, by decide +kernel⟩
theorem ok_at_most (F : DefAt K mg "at_most" s_at_most) (d1 : D_halves P w K mg base) (d2 : D_told_least P w K mg base) (d3 : D_told_greatest 65 P w K mg base) (m1 : mg "isinstance" = none) (m2 : mg "tuple" = none) : ∀ n, D_at_most n P w K mg base := by
  refine pure_rec (α := Told × Told) 66 (fun t => max t.1.depth t.2.depth) F sc_at_most (loc_of (by decide +kernel)) (fun _ => rfl) (fun _ _ _ _ _ _ us hl => match us, hl with | [_, _], _ => rfl) ?_
  rintro ⟨a, b⟩ X H0 h1 ih B rfl rfl rfl rfl rfl hsc hN hr
  have hu := hr.units
  obtain ⟨hb, h64⟩ := h1
  simp only at hb h64
  have c1 := call_halves d1 hr (by omega)
  have c2 := call_told_least d2 hr (by omega)
  have c3 := call_told_greatest d3 hr (by omega)
  have c4 : ∀ a' b' : Told, b'.Norm → a'.depth ≤ 64 → max a'.depth b'.depth < max a.depth b.depth → CallOk X "at_most" [toldR a', toldR b'] (blR (a'.leB b')) := fun a' b' h1 h2 h3 => ih (a', b') ⟨h1, h2⟩ h3
  clear ih
  refine ⟨none, ?_, fun C e => nomatch e⟩
  dsimp only [ctx0]
  cases a with
  | num i =>
    walk_at "fs"
    exact le_bl (Told.leB_num hb).symm
  | node x l r =>
    cases b with
    | num j =>
      walk_at "fs"
      · omega
      · exact le_bl Told.leB_to.symm
    | node y l' r' =>
      have q1 := (Told.node x l r).left_depth
      have q2 := (Told.node x l r).right_depth
      have q3 := (Told.node y l' r').left_depth
      have q4 := (Told.node y l' r').right_depth
      have q5 : 0 < (Told.node x l r).depth := Nat.succ_pos _
      walk_at "fs"
      all_goals (first | exact Told.norm_left hb | exact Told.norm_right hb | omega | exact le_bl (Told.leB_half _ _).symm | skip)
theorem call_at_most {X : Cx} {n k : Nat} (d : D_at_most n X.prog X.w X.K X.mg X.base) (hr : Room k X.A) (hk : n + 67 ≤ k) (a b : Told) (h1 : b.Norm) (h2 : a.depth ≤ 64) (h3 : max a.depth b.depth < n) : CallOk X "at_most" [toldR a, toldR b] (blR (a.leB b)) := d.at (hr.mono hk) (a, b) ⟨⟨h1, h2⟩, h3⟩

abbrev D_joined (n : Nat) (P : Program) (w : World) (K : PySem.W.Frag) (mg : Str → Option Value) (base : Heap) : Prop := DefOk P w K mg base "joined" CX0 (n + 3) ["one", "other"] [] (spF (fun t : Told × Told => [toldR t.1, toldR t.2]) (fun t => (max t.1.depth t.2.depth ≤ 64) ∧ max t.1.depth t.2.depth < n) (fun t => toldR (t.1.join t.2)))
theorem sc_joined : FnScope ["one", "other", "left", "right", "other_left", "other_right"] ["one", "other"] (defScope s_joined) := ⟨rfl, rfl, rfl, by decide +kernel, rfl, by decide +kernel, by decide +kernel⟩
theorem ok_joined (F : DefAt K mg "joined" s_joined) (d1 : D_halves P w K mg base) (d2 : D_spread P w K mg base) (m1 : mg "isinstance" = none) (m2 : mg "tuple" = none) (m3 : mg "max" = none) : ∀ n, D_joined n P w K mg base := by
  refine pure_rec (α := Told × Told) 2 (fun t => max t.1.depth t.2.depth) F sc_joined (loc_of (by decide +kernel)) (fun _ => rfl) (fun _ _ _ _ _ _ us hl => match us, hl with | [_, _], _ => rfl) ?_
  rintro ⟨a, b⟩ X H0 h64 ih B rfl rfl rfl rfl rfl hsc hN hr
  have hu := hr.units
  simp only at h64
  have c1 := call_halves d1 hr (by omega)
  have c2 := call_spread d2 hr (by omega)
  have c4 : ∀ a' b' : Told, max a'.depth b'.depth < max a.depth b.depth → CallOk X "joined" [toldR a', toldR b'] (toldR (a'.join b')) := fun a' b' h3 => ih (a', b') (by simp only; omega) h3
  clear ih
  refine ⟨none, ?_, fun C e => nomatch e⟩
  dsimp only [ctx0]
  have q1 := a.left_depth
  have q2 := a.right_depth
  have q3 := b.left_depth
  have q4 := b.right_depth
  have j1 := Told.join_depth a.left b.left
  have j2 := Told.join_depth a.right b.right
  by_cases hh : a.isNode = false ∧ b.isNode = false
  · cases a with
    | node => cases hh.1
    | num i =>
      cases b with
      | node => cases hh.2
      | num j =>
        walk_at "fs"
  · have q5 : 0 < max a.depth b.depth := by
      cases a with
      | node => simp only [Told.depth]; omega
      | num i =>
        cases b with
        | node => simp only [Told.depth]; omega
        | num j => exact absurd ⟨rfl, rfl⟩ hh
    have hu2 : (!a.isNode && !b.isNode) = false := by
      cases e1 : a.isNode <;> cases e2 : b.isNode <;> first | rfl | exact absurd ⟨e1, e2⟩ hh
    walk_at "fs"
    all_goals (first | omega | exact le_told (Told.join_half _ _) | (rename_i hc; rw [hu2] at hc; cases hc) | skip)
theorem call_joined {X : Cx} {n k : Nat} (d : D_joined n X.prog X.w X.K X.mg X.base) (hr : Room k X.A) (hk : n + 3 ≤ k) (a b : Told) (h2 : max a.depth b.depth ≤ 64) (h3 : max a.depth b.depth < n) : CallOk X "joined" [toldR a, toldR b] (toldR (a.join b)) := d.at (hr.mono hk) (a, b) ⟨h2, h3⟩
end
end Fk

namespace Fk
open PySem L2
def under (ns ms : List Int) : Bool := (ns.zip ms).all fun q => decide (q.1 ≤ q.2)
theorem under_iff (d : Nat) (ns ms : List Int) (h1 : ns.length = 2 ^ d) (h2 : ms.length = 2 ^ d) : under ns ms = (toldOf d ns).leB (toldOf d ms) := by
  symm
  refine Told.leB_eq ?_
  have hl : ((ns.zip ms).map fun x => (fun a b => b - a) x.1 x.2).length = 2 ^ d := by simp [h1, h2]
  have key : ∀ p, rd d ((ns.zip ms).map fun x => (fun a b => b - a) x.1 x.2) p = rd d ms p - rd d ns p := fun p => rd_zip (fun a b => b - a) d ns ms p h1 h2
  have e : under ns ms = true ↔ ∀ x ∈ (ns.zip ms).map (fun x => (fun a b => b - a) x.1 x.2), 0 ≤ x := by
    unfold under
    rw [List.all_eq_true]
    constructor
    · intro h x hx
      obtain ⟨q, hq, rfl⟩ := List.mem_map.mp hx
      have := of_decide_eq_true (h q hq)
      show 0 ≤ q.2 - q.1
      omega
    · intro h q hq
      have := h _ (List.mem_map.mpr ⟨q, hq, rfl⟩)
      have h3 : 0 ≤ q.2 - q.1 := this
      exact decide_eq_true (by omega)
  rw [e]
  constructor
  · intro h x hx
    obtain ⟨q, rfl⟩ := mem_rd d _ x hl hx
    rw [key]
    have := h q
    rw [T_toldOf d ns q h1, T_toldOf d ms q h2] at this
    omega
  · intro h p
    have := h _ (rd_mem d _ p hl)
    rw [key] at this
    rw [T_toldOf d ns p h1, T_toldOf d ms p h2]
    omega
theorem join_toldOf (d : Nat) (ns ms : List Int) (h1 : ns.length = 2 ^ d) (h2 : ms.length = 2 ^ d) : toldOf d ((ns.zip ms).map fun x => max x.1 x.2) = (toldOf d ns).join (toldOf d ms) :=
  Told.uniq (norm_toldOf d _ (by simp [h1, h2])) (Told.norm_join _ _) fun p => by
    rw [T_toldOf d _ p (by simp [h1, h2]), Told.T_join, T_toldOf d ns p h1, T_toldOf d ms p h2]
    exact rd_zip max d ns ms p h1 h2
theorem join_comm (a b : Told) : a.join b = b.join a := Told.uniq (Told.norm_join _ _) (Told.norm_join _ _) fun p => by rw [Told.T_join, Told.T_join, Int.max_comm]
theorem join_self {a : Told} (h : a.Norm) : a.join a = a := Told.uniq (Told.norm_join _ _) h fun p => by rw [Told.T_join, Int.max_self]
theorem le_joinL (a b : Told) : a.leB (a.join b) = true := Told.leB_iff.mpr fun p => by rw [Told.T_join]; exact Int.le_max_left _ _
theorem le_joinR (a b : Told) : b.leB (a.join b) = true := Told.leB_iff.mpr fun p => by rw [Told.T_join]; exact Int.le_max_right _ _
theorem le_self (a : Told) : a.leB a = true := Told.leB_iff.mpr fun p => Int.le_refl _
theorem ints_map2 {xs : List (Int × Int)} {f : Int × Int → Int} : intsR (xs.map f) = lstR (xs.map fun q => intR (f q)) := by
  show lstR ((xs.map f).map intR) = _
  rw [List.map_map]
  rfl
section
variable {P : Program} {w : World} {K : PySem.W.Frag} {mg : Str → Option Value} {base : Heap}
abbrev D_law_under (P : Program) (w : World) (K : PySem.W.Frag) (mg : Str → Option Value) (base : Heap) : Prop := DefOk P w K mg base "_law_under" CX0 1 ["_law_ones", "_law_others"] [] (spF (fun t : List Int × List Int => [intsR t.1, intsR t.2]) (fun t => t.1.length ≤ 1000) (fun t => blR (under t.1 t.2)))
theorem sc_law_under : FnScope ["_law_ones", "_law_others", "_law_one", "_law_other"] ["_law_ones", "_law_others"] (defScope s__law_under) := ⟨rfl, rfl, rfl, by decide +kernel, rfl, by decide +kernel, by decide +kernel⟩
theorem ok_law_under (F : DefAt K mg "_law_under" s__law_under) (m1 : mg "all" = none) (m2 : mg "zip" = none) : D_law_under P w K mg base := by
  refine pure_ok F sc_law_under (loc_of (by decide +kernel)) (fun _ => rfl) (fun _ _ _ _ _ _ us hl => match us, hl with | [_, _], _ => rfl) ?_
  rintro ⟨ns, ms⟩ X H0 h1 B rfl rfl rfl rfl rfl hsc hN hr
  have hu := hr.units
  simp only at h1
  refine ⟨none, ?_, fun C e => nomatch e⟩
  dsimp only [ctx0]
  refine bv_ret (Ra := blR (((ns.zip ms).map fun q => decide (q.1 ≤ q.2)).all id)) ?_ (le_bl (by unfold under; rw [List.all_map]; rfl))
  refine ev_callB (Rs := [lstR (((ns.zip ms).map fun q => decide (q.1 ≤ q.2)).map blR)]) (av_cons ?_ av_nil rfl) (cb_all m1 B.calm) (gl_of hsc (by decide +kernel)) (by decide) (by decide) rfl rfl
  rw [List.map_map]
  apply ev_lc2 (Ra := fun q => intR q.1) (Rb := fun q => intR q.2) (i := 2) (j := 3) (B := B) (hx := by decide +kernel) (hy := by decide +kernel) (hs := by intro _; rfl) (hp := pv_zip (R := intR) (S := intR) (Ev.le (Ra := sqR X.K (ns.map intR)) (ev_var (.here)) lst_sq) (Ev.le (Ra := sqR X.K (ms.map intR)) (ev_var (.there .here)) lst_sq) m2 (gl_of hsc (by decide +kernel)) rfl rfl rfl)
  case hl =>
    rw [List.length_zip]
    exact small (by omega)
  case hG => walk_at "fsn"
  case c1 => intro q; walk_at "fs_set"
  case c2 => intro q; walk_at "fs_set"
  case ok => exact blk_of hN hsc (by decide +kernel)
  case hb =>
    intro q hq X' b
    walk_at "fs"
    exact o_le
theorem call_law_under {X : Cx} {k : Nat} (d : D_law_under X.prog X.w X.K X.mg X.base) (hr : Room k X.A) (hk : 1 ≤ k) (ns ms : List Int) (h : ns.length ≤ 1000) : CallOk X "_law_under" [intsR ns, intsR ms] (blR (under ns ms)) := d.at (hr.mono hk) (ns, ms) h
abbrev sp_law (K : PySem.W.Frag) : Sp := spF (fun ns : List Int => [sqR K (ns.map intR)]) (fun ns => ns.length ≤ 63) (fun _ => blR true)
theorem sc_law : FnScope ["_law_script", "_law_k", "_law_cell", "_law_mixed_here", "_law_ones", "_law_others", "_law_at_here", "_law_number", "_law_one", "_law_other", "_law_found", "_law_due", "_law_pair"] ["_law_script"] (defScope s_law) := ⟨rfl, rfl, rfl, by decide +kernel, rfl, by decide +kernel, by decide +kernel⟩
abbrev Cb (K : PySem.W.Frag) (ns : List Int) (k : Nat) (c mx : Int) (xs : List Int) (o : Option Rel) : Ctx := [("_law_script", some (sqR K (ns.map intR))), ("_law_k", some (intR k)), ("_law_cell", some (intR c)), ("_law_mixed_here", some (intR mx)), ("_law_ones", some (intsR xs)), ("_law_others", o), ("_law_at_here", none), ("_law_number", none), ("_law_one", none), ("_law_other", none), ("_law_found", none), ("_law_due", none), ("_law_pair", none)]
theorem ok_law {f : Addr} {fd : FuncData} (F : Fun K "law" "law" s_law f fd) (m1 : mg "isinstance" = none) (m2 : mg "bool" = none) (m3 : mg "enumerate" = none) (m4 : mg "zip" = none) (m5 : mg "max" = none) (d1 : D_mixed P w K mg base) (d2 : D_law_tree 9 P w K mg base) (d3 : D_law_numbers 9 P w K mg base) (d4 : D_law_told_of 9 P w K mg base)
    (d5 : D_at_most 9 P w K mg base) (d6 : D_joined 9 P w K mg base) (d7 : D_law_under P w K mg base) : FnOk P w K mg base CX0 100 f fd ["_law_script"] (sp_law K) := by
  refine pure_fn F sc_law (loc_of (by decide +kernel)) (fun _ => rfl) ?_
  rintro ns X H0 h63 B rfl rfl rfl rfl rfl hsc hN hr
  have hu := hr.units
  have hu2 : X.A.units + 65 < cLine := by have := hr.un; omega
  have e1 := call_mixed d1 hr (by omega)
  have e2 := call_law_tree d2 hr (by omega)
  have e3 := call_law_numbers d3 hr (by omega)
  have e4 := call_law_told_of d4 hr (by omega) 3
  have e5 := call_at_most d5 hr (by omega)
  have e6 := call_joined d6 hr (by omega)
  have e7 := call_law_under d7 hr (by omega)
  clear d1 d2 d3 d4 d5 d6 d7
  refine ⟨none, ?_, fun C e => nomatch e⟩
  dsimp only [ctx0]
  refine bv_forT (xs := (ns ++ [5]).zipIdx) (R := fun q => tupR [intR (q.2 : Nat), intR q.1]) (fun _ => [("_law_script", some (sqR X.K (ns.map intR))), ("_law_k", none), ("_law_cell", none), ("_law_mixed_here", none), ("_law_ones", none), ("_law_others", none), ("_law_at_here", none), ("_law_number", none), ("_law_one", none), ("_law_other", none), ("_law_found", none), ("_law_due", none), ("_law_pair", none)]) B ?_ ?_ ?_ ?_ (by intro _; rfl)
  · refine pv_enum (R := intR) ?_ (by assumption) (gl_of hsc (by decide +kernel)) rfl rfl
    walk_at "fs"
    exact h63
  · repeat (first | exact CtxLe.nil | apply CtxLe.none | apply CtxLe.some (Rel.le.refl _))
  · rintro i ⟨c, k⟩ hk
    have hk2 := List.mem_zipIdx (List.mem_of_getElem? hk)
    have hkl : k < 64 := by
      have := hk2.2.1
      simp only [List.length_append, List.length_singleton] at this
      omega
    have hm := mixed_nn c (64 + (k : Int) % 64)
    have hm0 := mixed_nn c ((k : Int) % 64)
    dsimp only
    generalize hmx : mixed c (64 + (k : Int) % 64) = mx at hm
    generalize hmx0 : mixed c ((k : Int) % 64) = mx0 at hm0
    generalize htt : tvals 3 (genTold 3 c mx0) = xs
    generalize hto : tvals 3 (genTold 3 (c / 2) mx) = ys0
    have hxl : xs.length = 2 ^ 3 := by rw [← htt]; exact tvals_length 3 _
    have hyl0 : ys0.length = 2 ^ 3 := by rw [← hto]; exact tvals_length 3 _
    generalize hys : (if mx / 3 % 3 = 1 then xs.zipIdx.map (fun q => q.1 + mx / 9 / (1 + (q.2 : Nat)) % 2) else ys0) = ys
    have hyl : ys.length = 2 ^ 3 := by rw [← hys]; split <;> simp [hxl, hyl0]
    generalize haa : toldOf 3 xs = a
    generalize hbb : toldOf 3 ys = b
    have na : a.Norm := by rw [← haa]; exact norm_toldOf 3 xs hxl
    have nb : b.Norm := by rw [← hbb]; exact norm_toldOf 3 ys hyl
    have da : a.depth ≤ 3 := by rw [← haa]; exact toldOf_depth 3 xs
    have db : b.depth ≤ 3 := by rw [← hbb]; exact toldOf_depth 3 ys
    have dj := Told.join_depth a b
    have hu1 : under xs ys = a.leB b := by rw [← haa, ← hbb]; exact under_iff 3 xs ys hxl hyl
    have hu3 : under ys xs = b.leB a := by rw [← haa, ← hbb]; exact under_iff 3 ys xs hyl hxl
    have hj : toldOf 3 ((xs.zip ys).map fun x => max x.1 x.2) = a.join b := by rw [← haa, ← hbb]; exact join_toldOf 3 xs ys hxl hyl
    have c1 : CallOk X "_law_mixed" [intR c, intR (64 + (k : Int) % 64)] (intR mx) := by rw [← hmx]; exact e1 _ _ (by omega) (by omega)
    have c2 : CallOk X "_law_mixed" [intR c, intR ((k : Int) % 64)] (intR mx0) := by rw [← hmx0]; exact e1 _ _ (by omega) (by omega)
    have c3 : CallOk X "_law_tree" [intR c, intR mx0, intR 3] (toldR (genTold 3 c mx0)) := e2 c mx0 3 hm0 (by decide)
    have c4 : CallOk X "_law_tree" [intR (c / 2), intR mx, intR 3] (toldR (genTold 3 (c / 2) mx)) := e2 (c / 2) mx 3 hm (by decide)
    have c5 : CallOk X "_law_numbers" [toldR (genTold 3 c mx0), intR 3] (intsR xs) := by rw [← htt]; exact e3 _ 3 (genTold_depth _ _ _) (by decide) (by decide)
    have c6 : CallOk X "_law_numbers" [toldR (genTold 3 (c / 2) mx), intR 3] (intsR ys0) := by rw [← hto]; exact e3 _ 3 (genTold_depth _ _ _) (by decide) (by decide)
    have c7 : CallOk X "_law_told_of" [intsR xs] (toldR a) := by rw [← haa]; exact e4 xs hxl (by decide) (by decide)
    have c8 : CallOk X "_law_told_of" [intsR ys] (toldR b) := by rw [← hbb]; exact e4 ys hyl (by decide) (by decide)
    have c9 : CallOk X "_law_told_of" [intsR ((xs.zip ys).map fun x => max x.1 x.2)] (toldR (a.join b)) := by rw [← hj]; exact e4 _ (by simp [hxl, hyl]) (by decide) (by decide)
    have c10 : CallOk X "_law_under" [intsR xs, intsR ys] (blR (a.leB b)) := by rw [← hu1]; exact e7 xs ys (by omega)
    have c11 : CallOk X "_law_under" [intsR ys, intsR xs] (blR (b.leB a)) := by rw [← hu3]; exact e7 ys xs (by omega)
    have c12 : ∀ s t : Told, t.Norm → s.depth ≤ 3 → t.depth ≤ 3 → CallOk X "at_most" [toldR s, toldR t] (blR (s.leB t)) := fun s t h1 h2 h3 => e5 s t h1 (by omega) (by omega)
    have c13 : ∀ s t : Told, s.depth ≤ 3 → t.depth ≤ 3 → CallOk X "joined" [toldR s, toldR t] (toldR (s.join t)) := fun s t h1 h2 => e6 s t (by omega) (by omega)
    have dj2 := Told.join_depth b a
    have dj3 := Told.join_depth a a
    clear e1 e2 e3 e4 e5 e6 e7
    apply turn_mk
    case h1 => walk_at "fs"
    case h2 =>
      apply bv_set (G1 := ("_law_script", some (sqR X.K (ns.map intR))) :: ("_law_k", some (intR k)) :: ("_law_cell", some (intR c)) :: ("_law_mixed_here", some (intR mx)) :: _) (B := B) (hx := nn_of hsc (by decide +kernel)) (hs := by rfl)
      case h =>
        have c2 := True.intro
        walk_at "fs"
        walk_at "fa"
      case c => walk_at "fs1"
      apply bv_set (B := B) (hx := nn_of hsc (by decide +kernel)) (hs := by rfl)
      case h =>
        have c1 := True.intro
        have c4 := True.intro
        have c6 := True.intro
        walk_at "fs"
        walk_at "fa"
      case c => walk_at "fs1"
      apply bv_set (B := B) (hx := nn_of hsc (by decide +kernel)) (hs := by rfl)
      case h =>
        have c3 := True.intro
        have c5 := True.intro
        walk_at "fs"
        walk_at "fa"
      case c => walk_at "fs1"
      refine bv_cons (G1 := Cb X.K ns k c mx xs (some (intsR ys))) (sv_if (u := decide (mx / 3 % 3 = 1)) ?_ (fun hc => ?_) (fun hc => ?_)) ?_
      · walk_at "fs"
        walk_at "fa"
      · rw [if_pos (of_decide_eq_true hc)] at hys
        apply bv_setLc2 (xs := xs.zipIdx) (Ra := fun q => intR (q.2 : Nat)) (Rb := fun q => intR q.1) (S := fun q => intR (q.1 + mx / 9 / (1 + (q.2 : Nat)) % 2)) (i := 6) (j := 7) (B := B) (hx := by decide +kernel) (hy := by decide +kernel) (hyl := lc_local hsc (by decide +kernel)) (hk := kind_of hsc (by decide +kernel)) (hln := by rfl) (hany := by decide +kernel) (hs := by intro _; rfl)
          (hp := pv_enum (R := intR) (Ev.le (Ra := sqR X.K (xs.map intR)) (ev_var (.there (.there (.there (.there .here))))) lst_sq) m3 (gl_of hsc (by decide +kernel)) rfl rfl)
        case hl => rw [List.length_zipIdx]; exact small (by omega)
        case hG => walk_at "fsn"
        case c1 => intro q; walk_at "fs_set"
        case c2 => intro q; walk_at "fs_set"
        case ok => exact blk_of hN hsc (by decide +kernel)
        case hb =>
          intro q hq X' b'
          have hq2 := List.mem_zipIdx hq
          have hq3 : q.2 < 8 := by omega
          walk_at "fs"
          walk_at "fa"
        case cs => walk_at "fs1"
        case h2 =>
          refine bv_le ?_ bv_nil
          have e : (lstR (xs.zipIdx.map fun q => intR (q.1 + mx / 9 / (1 + (q.2 : Nat)) % 2))).le (intsR ys) := by
            rw [← hys]
            show Rel.le _ (lstR ((xs.zipIdx.map fun q => q.1 + mx / 9 / (1 + (q.2 : Nat)) % 2).map intR))
            rw [List.map_map]
            exact .refl _
          repeat (first | exact CtxLe.nil | apply CtxLe.none | apply CtxLe.some (Rel.le.refl _) | apply CtxLe.some e)
      · refine bv_le ?_ bv_nil
        rw [if_neg (of_decide_eq_false hc)] at hys
        subst hys
        walk_at "fctx"
      · apply bv_par (B := B) (hx := lc_local hsc (by decide +kernel)) (hy := lc_local hsc (by decide +kernel)) (hw := sw_par2 (kind_of hsc (by decide +kernel)) (lc_local hsc (by decide +kernel)) (lc_local hsc (by decide +kernel)) (by decide +kernel) rfl) (hs := by rfl)
        case ha =>
          apply av_cons (hs := by rfl)
          case ha =>
            have c8 := True.intro
            have c9 := True.intro
            walk_at "fs"
          case hr =>
            apply av_cons (hs := by rfl)
            case ha =>
              have c7 := True.intro
              have c9 := True.intro
              walk_at "fs"
            case hr => exact av_nil
        case c1 => walk_at "fs1"
        case c2 => walk_at "fs1"
        case hij => decide
        case h2 =>
          have c7 := True.intro
          have c8 := True.intro
          apply bv_set (B := B) (hx := nn_of hsc (by decide +kernel)) (hs := by rfl)
          case h => walk_at "fs"; all_goals (first | exact nb | omega)
          case c => walk_at "fs1"
          apply bv_ifr (t := [PySem.Stmt.Return _ _])
          case hc => walk_at "fs"
          case ht =>
            intro hc
            simp at hc
          case hf2 =>
            intro _
            apply bv_ifr (t := [PySem.Stmt.Return _ _])
            case hc =>
              have c10 := True.intro
              walk_at "fs"
              all_goals (first | exact na | exact nb | omega)
            case ht =>
              intro hc
              simp [le_self] at hc
            case hf2 =>
              intro _
              apply bv_set (B := B) (hx := nn_of hsc (by decide +kernel)) (hs := by rfl)
              case h =>
                apply ev_call (hc := c9) (hl := .cons (.refl _) .nil) (hg := gl_of hsc (by decide +kernel)) (hdb := by decide) (he := by rfl) (hpl := by rfl)
                apply av_cons (hs := by rfl)
                case hr => exact av_nil
                case ha =>
                  rw [ints_map2]
                  apply ev_lc1 (xs := xs.zip ys) (R := fun q => tupR [intR q.1, intR q.2]) (S := fun q => intR (max q.1 q.2)) (i := 12) (B := B) (hx := by decide +kernel) (hs := by intro _; rfl)
                    (hp := pv_zipN (R := intR) (S := intR) (Ev.le (Ra := sqR X.K (xs.map intR)) (ev_var (.there (.there (.there (.there .here))))) lst_sq) (Ev.le (Ra := sqR X.K (ys.map intR)) (ev_var (.there (.there (.there (.there (.there .here)))))) lst_sq) m4 (gl_of hsc (by decide +kernel)) rfl rfl rfl)
                  case hl => rw [List.length_zip]; exact small (by omega)
                  case hG => walk_at "fsn"
                  case c => intro q; walk_at "fs_set"
                  case ok => exact blk_of hN hsc (by decide +kernel)
                  case hb =>
                    intro q hq X' b'
                    refine ev_callB (Rs := [tupR [intR q.1, intR q.2]]) (av_cons ?_ av_nil rfl) (cb_maxP (by rw [b'.mg]; exact m5) (by rw [b'.calm]; exact B.calm) (by rw [b'.A]; exact hu2)) (b'.gl (by decide +kernel)) (by decide) (by decide) rfl rfl
                    walk_at "fs"
              case c => walk_at "fs1"
              case h2 =>
                apply bv_ifr (t := [PySem.Stmt.Return _ _])
                case hc =>
                  walk_at "fs"
                  all_goals (first | omega | skip)
                case ht =>
                  intro hc
                  rw [join_comm b a, join_self na] at hc
                  simp at hc
                case hf2 =>
                  intro _
                  apply bv_ifr (t := [PySem.Stmt.Return _ _])
                  case hc =>
                    walk_at "fs"
                    all_goals (first | exact Told.norm_join _ _ | omega | skip)
                  case ht =>
                    intro hc
                    simp [le_joinL, le_joinR] at hc
                  case hf2 =>
                    intro _
                    exact bv_nil
    case h3 => walk_at "fctx"
  · have c1 := fun s t h1 h2 h3 => e5 s t h1 h2 h3
    clear e1 e2 e3 e4 e6 e7 e5
    walk_at "fs"
    all_goals (first | decide | exact ⟨trivial, trivial, rfl, fun q => by cases q.1⟩ | trivial | skip)
    rw [Told.leB_num (by exact ⟨trivial, trivial, rfl, fun q => by cases q.1⟩), Told.leB_to]
    exact le_bl rfl
end
end Fk

namespace Fk
open PySem L2
theorem all_mk {l : PySem.W.OpenLaw} {w : World} {K : PySem.W.Frag} {h : Heap} {mg : Str → Option Value} {fa : Addr} (X : K.In h) (G : h.Ns mainGlobals mg) (hfa : mg "law" = some (.ref fa))
    (F_lifted : DefAt K mg "lifted" s_lifted)
    (F_base : DefAt K mg "base" s_base)
    (F_spread : DefAt K mg "spread" s_spread)
    (F_told_least : DefAt K mg "told_least" s_told_least)
    (F_told_greatest : DefAt K mg "told_greatest" s_told_greatest)
    (F_halves : DefAt K mg "halves" s_halves)
    (F_at_most : DefAt K mg "at_most" s_at_most)
    (F_joined : DefAt K mg "joined" s_joined)
    (F__law_mixed : DefAt K mg "_law_mixed" s__law_mixed)
    (F__law_tree : DefAt K mg "_law_tree" s__law_tree)
    (F__law_numbers : DefAt K mg "_law_numbers" s__law_numbers)
    (F__law_told_of : DefAt K mg "_law_told_of" s__law_told_of)
    (F__law_under : DefAt K mg "_law_under" s__law_under)
    {fL : Addr} {odL anL : Option Addr} {slL : Array (Option Value)} {ocL kVL dcL pmL cdL ctL : Value} (aL : PySem.W.nsIn K mainGlobals "law" = some (some (.ref fL))) (lL : K.lookup fL = some ⟨ocL, odL, .func (PySem.W.fnOf "law" "law" (defArgs s_law) (defBody s_law) (defScope s_law) .none kVL dcL pmL anL cdL ctL), slL⟩) (cL : PySem.W.codeIn K cdL "law" = true) (kL : PySem.W.keepIn K (.ref fL) = true)
    (z_isinstance : PySem.W.nsIn K mainGlobals "isinstance" = some none)
    (z_bool : PySem.W.nsIn K mainGlobals "bool" = some none)
    (z_tuple : PySem.W.nsIn K mainGlobals "tuple" = some none)
    (z_len : PySem.W.nsIn K mainGlobals "len" = some none)
    (z_enumerate : PySem.W.nsIn K mainGlobals "enumerate" = some none)
    (z_min : PySem.W.nsIn K mainGlobals "min" = some none)
    (z_max : PySem.W.nsIn K mainGlobals "max" = some none)
    (z_zip : PySem.W.nsIn K mainGlobals "zip" = some none)
    (z_all : PySem.W.nsIn K mainGlobals "all" = some none)
    : ∃ fd : FuncData, (∀ (s : Shared) (v : Value), BindsTo s fd ⟨[v], []⟩ [("_law_script", v)]) ∧ ∀ base : Heap, K.In base → base.Ns mainGlobals mg → FnOk l.prog w K mg base CX0 100 fa fd ["_law_script"] (sp_law K) := by
  have e := hfa.symm.trans (PySem.W.mg_of X G aL)
  cases e
  have FL := fun_mk (st := s_law) lL cL kL
  have m_isinstance : mg "isinstance" = none := PySem.W.mg_none_of X G z_isinstance
  have m_bool : mg "bool" = none := PySem.W.mg_none_of X G z_bool
  have m_tuple : mg "tuple" = none := PySem.W.mg_none_of X G z_tuple
  have m_len : mg "len" = none := PySem.W.mg_none_of X G z_len
  have m_enumerate : mg "enumerate" = none := PySem.W.mg_none_of X G z_enumerate
  have m_min : mg "min" = none := PySem.W.mg_none_of X G z_min
  have m_max : mg "max" = none := PySem.W.mg_none_of X G z_max
  have m_zip : mg "zip" = none := PySem.W.mg_none_of X G z_zip
  have m_all : mg "all" = none := PySem.W.mg_none_of X G z_all
  refine ⟨PySem.W.fnOf "law" "law" (defArgs s_law) (defBody s_law) (defScope s_law) .none kVL dcL pmL anL cdL ctL, fun s v => .of_eq rfl, fun base _ _ => ?_⟩
  have d_li := ok_lifted (P := l.prog) (w := w) (base := base) F_lifted m_isinstance m_tuple
  have d_b := ok_base (P := l.prog) (w := w) (base := base) F_base m_isinstance m_tuple
  have d_s := ok_spread F_spread d_li d_b m_isinstance m_tuple m_min
  have d_tl := ok_told_least F_told_least d_b
  have d_tg := ok_told_greatest (P := l.prog) (w := w) (base := base) F_told_greatest m_isinstance m_tuple m_max 65
  have d_h := ok_halves F_halves d_li m_isinstance m_tuple
  have d_am := ok_at_most F_at_most d_h d_tl d_tg m_isinstance m_tuple 9
  have d_j := ok_joined F_joined d_h d_s m_isinstance m_tuple m_max 9
  exact ok_law FL m_isinstance m_bool m_enumerate m_zip m_max (ok_mixed F__law_mixed) (ok_law_tree F__law_tree 9) (ok_law_numbers F__law_numbers m_isinstance m_tuple 9) (ok_law_told_of F__law_told_of m_len m_min 9) d_am d_j (ok_law_under F__law_under m_all m_zip)
theorem walk {l : PySem.W.OpenLaw} {q : Program} {loose : List Str} {XP : (Str → Option Value) → Heap → Prop} {YP : World → Heap → Prop} {d : DefRec} {K : Params → PySem.W.Frag} (hn : l.most = some 63) (hdf : d.params.defaults = [])
    (hY : ∀ (w : World) (h : Heap), YP w h → (K w.params).In h)
    (F : ∀ (w : World) (mg : Str → Option Value) (fa : Addr) (h : Heap), (K w.params).In h → h.Ns mainGlobals mg → mg d.name = some (.ref fa) →
      ∃ fd : FuncData, (∀ (s : Shared) (u : Value), BindsTo s fd ⟨[u], []⟩ [("_law_script", u)]) ∧ ∀ base : Heap, (K w.params).In base → base.Ns mainGlobals mg → FnOk l.prog w (K w.params) mg base CX0 100 fa fd ["_law_script"] (sp_law (K w.params))) :
    PySem.W.WalkO q loose XP YP l.row.toRowW d [] (fun f vs => PySem.call f vs) :=
  L2.walk_of (n := 63) (k := 100) (x := "_law_script") (CX := fun _ => CX0) (sp := fun w => sp_law (K w.params)) hn (by decide) hdf ⟨rfl, by decide, by decide⟩ hY F (fun _ _ a ns hl _ hS => ⟨ns, hl, ⟨⟨a, _, rfl, hS, ints_args⟩, trivial⟩, fun _ _ _ r => r⟩) fun _ _ _ _ _ z => z
end Fk
open PySem PySem.W PyProof.Rows
set_option maxRecDepth 100000 in
set_option maxHeartbeats 0 in
theorem PySem.Challenge.cw_forkstamp_k04_at_most_and_joined_holds : PySem.Challenge.rw_forkstamp_k04_at_most_and_joined.Holds := by
  w_on; o_law; k_head; (case hw => w_witness2)
  k_fill
  refine Fk.walk (l := PySem.Challenge.rw_forkstamp_k04_at_most_and_joined) rfl rfl (fun w h Y => PySem.W.kIn_of Y) ?F
  case F =>
    intro w mg fa h KX G hmg
    refine' Fk.all_mk KX G hmg (Fk.defAt_mk KX G ?a_lifted ?l_lifted ?c_lifted ?k_lifted) (Fk.defAt_mk KX G ?a_base ?l_base ?c_base ?k_base) (Fk.defAt_mk KX G ?a_spread ?l_spread ?c_spread ?k_spread) (Fk.defAt_mk KX G ?a_told_least ?l_told_least ?c_told_least ?k_told_least) (Fk.defAt_mk KX G ?a_told_greatest ?l_told_greatest ?c_told_greatest ?k_told_greatest) (Fk.defAt_mk KX G ?a_halves ?l_halves ?c_halves ?k_halves) (Fk.defAt_mk KX G ?a_at_most ?l_at_most ?c_at_most ?k_at_most) (Fk.defAt_mk KX G ?a_joined ?l_joined ?c_joined ?k_joined) (Fk.defAt_mk KX G ?a__law_mixed ?l__law_mixed ?c__law_mixed ?k__law_mixed) (Fk.defAt_mk KX G ?a__law_tree ?l__law_tree ?c__law_tree ?k__law_tree) (Fk.defAt_mk KX G ?a__law_numbers ?l__law_numbers ?c__law_numbers ?k__law_numbers) (Fk.defAt_mk KX G ?a__law_told_of ?l__law_told_of ?c__law_told_of ?k__law_told_of) (Fk.defAt_mk KX G ?a__law_under ?l__law_under ?c__law_under ?k__law_under) ?aL ?lL ?cL ?kL ?z_isinstance ?z_bool ?z_tuple ?z_len ?z_enumerate ?z_min ?z_max ?z_zip ?z_all
    (case a_lifted => k_is)
    (case l_lifted => k_is)
    (case c_lifted => k_is)
    (case k_lifted => k_is)
    (case a_base => k_is)
    (case l_base => k_is)
    (case c_base => k_is)
    (case k_base => k_is)
    (case a_spread => k_is)
    (case l_spread => k_is)
    (case c_spread => k_is)
    (case k_spread => k_is)
    (case a_told_least => k_is)
    (case l_told_least => k_is)
    (case c_told_least => k_is)
    (case k_told_least => k_is)
    (case a_told_greatest => k_is)
    (case l_told_greatest => k_is)
    (case c_told_greatest => k_is)
    (case k_told_greatest => k_is)
    (case a_halves => k_is)
    (case l_halves => k_is)
    (case c_halves => k_is)
    (case k_halves => k_is)
    (case a_at_most => k_is)
    (case l_at_most => k_is)
    (case c_at_most => k_is)
    (case k_at_most => k_is)
    (case a_joined => k_is)
    (case l_joined => k_is)
    (case c_joined => k_is)
    (case k_joined => k_is)
    (case a__law_mixed => k_is)
    (case l__law_mixed => k_is)
    (case c__law_mixed => k_is)
    (case k__law_mixed => k_is)
    (case a__law_tree => k_is)
    (case l__law_tree => k_is)
    (case c__law_tree => k_is)
    (case k__law_tree => k_is)
    (case a__law_numbers => k_is)
    (case l__law_numbers => k_is)
    (case c__law_numbers => k_is)
    (case k__law_numbers => k_is)
    (case a__law_told_of => k_is)
    (case l__law_told_of => k_is)
    (case c__law_told_of => k_is)
    (case k__law_told_of => k_is)
    (case a__law_under => k_is)
    (case l__law_under => k_is)
    (case c__law_under => k_is)
    (case k__law_under => k_is)
    (case aL => k_is)
    (case lL => k_is)
    (case cL => k_is)
    (case kL => k_is)
    (case z_isinstance => k_is)
    (case z_bool => k_is)
    (case z_tuple => k_is)
    (case z_len => k_is)
    (case z_enumerate => k_is)
    (case z_min => k_is)
    (case z_max => k_is)
    (case z_zip => k_is)
    (case z_all => k_is)
#print axioms PySem.Challenge.cw_forkstamp_k04_at_most_and_joined_holds
