import PyProof.Rows.All
import Wide.All
import OpenK.AllK
import Wide.FinOn
import HandS.ForExc
import HandS.IsInst
import HandS.Style
import HandS.Deep
import HandS.ForMost
import HandS.Walk
import HandS.SetFor
import KE.KDictZip
import KE.DataMinMax
import HandS.ForExc
import HandS.ExcIs
import HandS.Text
import HandS.TupAny
import HandS.SortInts
import HandS.More
import HandS.Conv
import HandS.IsInst
import HandS.CallSlots
import HandS.Deep
import KE.KExcIs
import HandS.Iter
import PySem.Challenge.RW_forkstamp_k05_deeds_by_the_rule
set_option Elab.async false
set_option linter.all false
set_option maxRecDepth 100000
set_option maxHeartbeats 4000000
set_option autoImplicit false
namespace Fk
open PySem L2
def top (i : Nat) : Stmt := PySem.Challenge.pw_forkstamp_k05_deeds_by_the_rule.main.body.getD i (.Pass ⟨0, 0, 0, 0⟩)
abbrev s_StampError : Stmt := top 1
abbrev s_BadOwn : Stmt := top 2
abbrev s_BadTold : Stmt := top 3
abbrev s_Shared : Stmt := top 4
abbrev s_NoOwn : Stmt := top 5
abbrev s_BadRow : Stmt := top 6
abbrev s_NoHand : Stmt := top 7
abbrev s_lifted : Stmt := top 9
abbrev s_base : Stmt := top 10
abbrev s_spread : Stmt := top 11
abbrev s_told_least : Stmt := top 12
abbrev s_told_greatest : Stmt := top 13
abbrev s_halves : Stmt := top 14
abbrev s_filled : Stmt := top 17
abbrev s_price : Stmt := top 18
abbrev s_goes_left : Stmt := top 19
abbrev s_grown : Stmt := top 20
abbrev s_raised : Stmt := top 21
abbrev s__law_mixed : Stmt := top 23
abbrev s__law_at : Stmt := top 24
abbrev s__law_own : Stmt := top 25
abbrev s__law_places : Stmt := top 26
abbrev s__law_own_of : Stmt := top 27
abbrev s__law_tree : Stmt := top 28
abbrev s__law_numbers : Stmt := top 29
abbrev s__law_told_of : Stmt := top 30
abbrev s__law_word : Stmt := top 31
abbrev s__law_filled : Stmt := top 32
abbrev s__law_leaves : Stmt := top 33
abbrev s__law_grown : Stmt := top 34
abbrev s__law_refused : Stmt := top 35
abbrev s__law_far : Stmt := top 36
abbrev s_law : Stmt := top 37
end Fk
/-! A small logic over the hand layer: what an expression, a test, a block comes to, in contexts that tell of each name what it holds; heaps stay hidden. -/
namespace Fk
open PySem L2

/-- what is true of a value in a heap, and stays so while all that is tracked stays -/
structure Rel where
  p : V → Hp → Prop
  up : ∀ {v : V} {H H' : Hp}, Same H H' → p v H → p v H'
def intR (i : Int) : Rel := ⟨fun v _ => v = .int i, fun _ h => h⟩
def blR (b : Bool) : Rel := ⟨fun v _ => v = .bl b, fun _ h => h⟩
def strR (x : Str) : Rel := ⟨fun v _ => v = .str x, fun _ h => h⟩
def nonR : Rel := ⟨fun v _ => v = .non, fun _ h => h⟩
def tyR (n : String) : Rel := ⟨fun v _ => v = .ty n, fun _ h => h⟩
def clsR (C : Addr) : Rel := ⟨fun v _ => v = .ref C, fun _ h => h⟩
def anyR : Rel := ⟨fun _ _ => True, fun _ h => h⟩
/-- stronger -/
def Rel.le (R R' : Rel) : Prop := ∀ v H, R.p v H → R'.p v H
theorem Rel.le.refl (R : Rel) : R.le R := fun _ _ h => h
theorem Rel.le.of_eq {R R' : Rel} (e : R = R') : R.le R' := by subst e; exact .refl _

/-- the names of a def with what they hold -/
abbrev Ctx := List (Str × Option Rel)
def SlotsN (N : List Str) (sc : Scope) (G : Ctx) (σ : St) (H : Hp) : Prop :=
  N = G.map (·.1) ∧ G.length = σ.length ∧ ∀ (i : Nat) (x : Str) (R : Rel), G[i]? = some (x, some R) → Vis sc x ∧ ∃ v, σ[i]? = some (some v) ∧ R.p v H
def Slots (X : Cx) (G : Ctx) (σ : St) (H : Hp) : Prop := SlotsN X.N X.env.scope G σ H
theorem Slots.up {X : Cx} {G : Ctx} {σ : St} {H H' : Hp} (s : Same H H') (h : Slots X G σ H) : Slots X G σ H' :=
  ⟨h.1, h.2.1, fun i x R e => by obtain ⟨k, v, a, b⟩ := h.2.2 i x R e; exact ⟨k, v, a, R.up s b⟩⟩
def Args : List Rel → List V → Hp → Prop
  | [], [], _ => True
  | R :: Rs, v :: vs, H => R.p v H ∧ Args Rs vs H
  | [], _ :: _, _ => False
  | _ :: _, [], _ => False
theorem Args.up : ∀ {Rs : List Rel} {vs : List V} {H H' : Hp}, Same H H' → Args Rs vs H → Args Rs vs H'
  | [], [], _, _, _, h => h
  | R :: _, _ :: _, _, _, s, h => ⟨R.up s h.1, Args.up s h.2⟩
  | [], _ :: _, _, _, _, h => h.elim
  | _ :: _, [], _, _, _, h => h.elim
theorem Args.one {R : Rel} {vs : List V} {H : Hp} (h : Args [R] vs H) : ∃ v, vs = [v] ∧ R.p v H := by
  match vs, h with
  | [v], h => exact ⟨v, rfl, h.1⟩
theorem Args.two {R R' : Rel} {vs : List V} {H : Hp} (h : Args [R, R'] vs H) : ∃ v w, vs = [v, w] ∧ R.p v H ∧ R'.p w H := by
  match vs, h with
  | [v, w], h => exact ⟨v, w, rfl, h.1, h.2.1⟩
theorem Args.three {R R' R'' : Rel} {vs : List V} {H : Hp} (h : Args [R, R', R''] vs H) : ∃ v w u, vs = [v, w, u] ∧ R.p v H ∧ R'.p w H ∧ R''.p u H := by
  match vs, h with
  | [v, w, u], h => exact ⟨v, w, u, rfl, h.1, h.2.1, h.2.2.1⟩
theorem Args.length : ∀ {Rs : List Rel} {vs : List V} {H : Hp}, Args Rs vs H → vs.length = Rs.length
  | [], [], _, _ => rfl
  | _ :: _, _ :: _, _, h => congrArg (· + 1) (Args.length h.2)
  | [], _ :: _, _, h => h.elim
  | _ :: _, [], _, h => h.elim

/-! ### looking up and storing a name -/
inductive InCtx (x : Str) (R : Rel) : Ctx → Nat → Prop
  | here {G : Ctx} : InCtx x R ((x, some R) :: G) 0
  | there {G : Ctx} {q : Str × Option Rel} {i : Nat} (h : InCtx x R G i) : InCtx x R (q :: G) (i + 1)
theorem InCtx.get {x : Str} {R : Rel} {G : Ctx} {i : Nat} (h : InCtx x R G i) : G[i]? = some (x, some R) := by
  induction h with
  | here => rfl
  | there _ ih => simpa using ih
inductive SetCtx (x : Str) (R : Option Rel) : Ctx → Ctx → Nat → Prop
  | here {G : Ctx} {o : Option Rel} : SetCtx x R ((x, o) :: G) ((x, R) :: G) 0
  | there {G G' : Ctx} {q : Str × Option Rel} {i : Nat} (h : SetCtx x R G G' i) : SetCtx x R (q :: G) (q :: G') (i + 1)
theorem SetCtx.name {x : Str} {R : Option Rel} {G G' : Ctx} {i : Nat} (h : SetCtx x R G G' i) : (G.map (·.1))[i]? = some x := by
  induction h with
  | here => rfl
  | there _ ih => simpa using ih
theorem SetCtx.names {x : Str} {R : Option Rel} {G G' : Ctx} {i : Nat} (h : SetCtx x R G G' i) : G'.map (·.1) = G.map (·.1) := by
  induction h with
  | here => rfl
  | there _ ih => simp [ih]
theorem SetCtx.get {x : Str} {R : Option Rel} {G G' : Ctx} {i : Nat} (h : SetCtx x R G G' i) : ∀ j, G'[j]? = if j = i then some (x, R) else G[j]? := by
  induction h with
  | here => intro j; cases j <;> simp
  | there _ ih =>
    intro j
    cases j with
    | zero => simp
    | succ j => simpa using ih j
theorem SetCtx.lt {x : Str} {R : Option Rel} {G G' : Ctx} {i : Nat} (h : SetCtx x R G G' i) : i < G.length ∧ G'.length = G.length := by
  induction h with
  | here => simp
  | there _ ih => simp; omega
theorem Slots.set {X : Cx} {G G' : Ctx} {σ : St} {H : Hp} {x : Str} {R : Rel} {i : Nat} {v : V} (hv : Vis X.env.scope x) (c : SetCtx x (some R) G G' i) (h : Slots X G σ H) (r : R.p v H) : Slots X G' (σ.set i (some v)) H := by
  refine ⟨by rw [c.names]; exact h.1, by rw [List.length_set, c.lt.2]; exact h.2.1, fun j y S e => ?_⟩
  rw [c.get] at e
  have hl := c.lt.1
  by_cases hj : j = i
  · subst hj
    rw [if_pos rfl] at e
    cases e
    exact ⟨hv, v, by rw [List.getElem?_set_self (by have := h.2.1; omega)], r⟩
  · rw [if_neg hj] at e
    obtain ⟨k, w, a, b⟩ := h.2.2 j y S e
    exact ⟨k, w, by rw [List.getElem?_set_ne (Ne.symm hj)]; exact a, b⟩

/-! ### the judgements -/
/-- what every body has -/
structure Body (X : Cx) : Prop where
  calm : X.calm = true
  nd : X.N.Nodup
  loc : ∀ x ∈ X.N, Loc X.env.scope x ∨ X.env.scope.names.lookup x = none
  fn : ∀ x, X.fn x = true
  own : PassesOwn (model X.prog X.w) X.A X.env X.xe
theorem Body.locOf {X : Cx} (B : Body X) {x : Str} (h : x ∈ X.N) (hx : X.env.scope.names.lookup x ≠ none) : Loc X.env.scope x := (B.loc x h).resolve_right hx
theorem vis_of_loc {sc : Scope} {x : Str} (h : Loc sc x) : Vis sc x := by
  rcases h with k | k
  · exact .inl k
  · exact .inr (.inl k)
def tEv (X : Cx) (H0 : Hp) (G : Ctx) (R : Rel) : TE := fun σ H Q => Same H0 H ∧ Slots X G σ H ∧ ∀ v H', Same H H' → R.p v H' → Q v H'
def tTv (X : Cx) (H0 : Hp) (G : Ctx) (b : Bool) : TT := fun σ H Q => Same H0 H ∧ Slots X G σ H ∧ ∀ H', Same H H' → Q b H'
def tAv (X : Cx) (H0 : Hp) (G : Ctx) (Rs : List Rel) : TA := fun σ H Q => Same H0 H ∧ Slots X G σ H ∧ ∀ vs H', Same H H' → Args Rs vs H' → Q vs H'
/-- a block: behind it the names hold G' (none: nothing follows), or it hands back R -/
def tSv (X : Cx) (H0 : Hp) (G : Ctx) (G' : Option Ctx) (R : Rel) : TS := fun D σ H => Same H0 H ∧ Slots X G σ H ∧ (∀ C σ' H', G' = some C → Same H H' → Slots X C σ' H' → D.nx σ' H') ∧ ∀ v H', Same H H' → R.p v H' → D.rt v H'
def Ev (X : Cx) (H0 : Hp) (G : Ctx) (e : Expr) (R : Rel) : Prop := PE X e (tEv X H0 G R)
def Tv (X : Cx) (H0 : Hp) (G : Ctx) (e : Expr) (b : Bool) : Prop := PT X e (tTv X H0 G b)
def Wv (X : Cx) (H0 : Hp) (G : Ctx) (e : Expr) (b : Bool) : Prop := PW X e (tTv X H0 G b)
def Av (X : Cx) (H0 : Hp) (G : Ctx) (es : List Expr) (Rs : List Rel) : Prop := PA X es (tAv X H0 G Rs)
def Sv (X : Cx) (H0 : Hp) (G : Ctx) (st : Stmt) (G' : Option Ctx) (R : Rel) : Prop := PS X st (tSv X H0 G G' R)
def Bv (X : Cx) (H0 : Hp) (G : Ctx) (sts : List Stmt) (G' : Option Ctx) (R : Rel) : Prop := PSs X sts (tSv X H0 G G' R)
section
variable {X : Cx} {H0 : Hp} {G G1 G2 : Ctx} {G' : Option Ctx} {R Ra Rb Rc : Rel} {Rs : List Rel} {a b c e : Expr} {es : List Expr} {x : Str} {pos p : Pos} {u v w : Bool}
theorem PE_imp {t t' : TE} (h : PE X e t) (i : ∀ σ H Q, t' σ H Q → t σ H Q) : PE X e t' := ⟨fun pins s σ H Q I q => h.run pins s σ H Q I (i _ _ _ q)⟩
theorem PT_imp {t t' : TT} (h : PT X e t) (i : ∀ σ H Q, t' σ H Q → t σ H Q) : PT X e t' := ⟨fun pins s σ H Q I q => h.run pins s σ H Q I (i _ _ _ q)⟩
theorem PW_imp {t t' : TT} (h : PW X e t) (i : ∀ σ H Q, t' σ H Q → t σ H Q) : PW X e t' := ⟨fun wh pins s σ H Q I q => h.run wh pins s σ H Q I (i _ _ _ q)⟩
theorem PA_imp {t t' : TA} (h : PA X es t) (i : ∀ σ H Q, t' σ H Q → t σ H Q) : PA X es t' := ⟨fun ps pins s σ H Q I q => h.run ps pins s σ H Q I (i _ _ _ q)⟩
theorem PS_imp {st : Stmt} {t t' : TS} (h : PS X st t) (i : ∀ D σ H, t' D σ H → t D σ H) : PS X st t' := ⟨fun pins s σ H D I q => h.run pins s σ H D I (i _ _ _ q)⟩
theorem PSs_imp {st : List Stmt} {t t' : TS} (h : PSs X st t) (i : ∀ D σ H, t' D σ H → t D σ H) : PSs X st t' := ⟨fun pins s σ H D I q => h.run pins s σ H D I (i _ _ _ q)⟩

/-! ### expressions -/
theorem Ev.le (h : Ev X H0 G e R) (l : R.le Ra) : Ev X H0 G e Ra := PE_imp h fun _ _ _ q => ⟨q.1, q.2.1, fun v H' s r => q.2.2 v H' s (l _ _ r)⟩
theorem Ev.eq (h : Ev X H0 G e R) (l : R = Ra) : Ev X H0 G e Ra := l ▸ h
theorem ev_var {i : Nat} (h : InCtx x R G i) (hd : (x == ("__debug__" : Str)) = false := by decide) (hcd : (x == ("__classdict__" : Str)) = false := by decide) : Ev X H0 G (.Name x pos) R := by
  refine ⟨fun pins s σ H Q I q => ?_⟩
  obtain ⟨g, S, q⟩ := q
  obtain ⟨hv, v, e, r⟩ := S.2.2 _ _ _ h.get
  have hN : X.N[i]? = some x := by rw [S.1, List.getElem?_map, h.get]; rfl
  exact (pe_var (i := i) hN hv hd hcd).run pins s σ H Q I ⟨v, e, q v H (Same.refl H) r⟩
theorem ev_c {k : V} {e : Expr} (h : PE X e (tC k)) (r : ∀ H, R.p k H) : Ev X H0 G e R := PE_imp h fun _ H _ q => q.2.2 _ H (Same.refl H) (r H)
theorem ev_int {i : Int} {j : Nat} : Ev X H0 G (.Constant (.int i) j pos) (intR i) := ev_c pe_int fun _ => rfl
theorem ev_bl {i : Bool} {j : Nat} : Ev X H0 G (.Constant (.bool i) j pos) (blR i) := ev_c pe_bl fun _ => rfl
theorem ev_str {i : Str} {j : Nat} : Ev X H0 G (.Constant (.str i) j pos) (strR i) := ev_c pe_str fun _ => rfl
theorem ev_non {j : Nat} : Ev X H0 G (.Constant .none j pos) nonR := ev_c pe_non fun _ => rfl
/-- a built-in type, as a value -/
theorem ev_ty {n : String} (hm : X.mg x = none) (hv : bootBuiltins x = some (.type n)) (hg : Gl X x) (hn : x ≠ "__name__") (hd : (x == ("__debug__" : Str)) = false) : Ev X H0 G (.Name x pos) (tyR n) := ev_c (pe_bltn (v := .ty n) hg hm hv rfl hn hd) fun _ => rfl
/-- an own class, as a value -/
theorem ev_cls {C : Addr} (hm : X.mg x = some (.ref C)) (hg : Gl X x) (hd : (x == ("__debug__" : Str)) = false) : Ev X H0 G (.Name x pos) (clsR C) := ev_c (pe_glob (v := .ref C) hg hm rfl hd) fun _ => rfl
theorem ev_glob {k : V} {u : Value} (hm : X.mg x = some u) (r : RelV k u) (hr : ∀ H, R.p k H) (hg : Gl X x) (hd : (x == ("__debug__" : Str)) = false) : Ev X H0 G (.Name x pos) R := ev_c (pe_glob hg hm r hd) hr
theorem boot_tuple : bootBuiltins "tuple" = some (.type "tuple") := by decide +kernel
theorem boot_int : bootBuiltins "int" = some (.type "int") := by decide +kernel
theorem boot_bool : bootBuiltins "bool" = some (.type "bool") := by decide +kernel
theorem boot_str : bootBuiltins "str" = some (.type "str") := by decide +kernel
theorem boot_list : bootBuiltins "list" = some (.type "list") := by decide +kernel
/-- a two-place operation on values -/
def Op2 (X : Cx) (f : Value → Value → Sem Value) (Ra Rb R : Rel) : Prop := ∃ r, OpR X f r ∧ ∀ x y H Q, Ra.p x H → Rb.p y H → (∀ v H', Same H H' → R.p v H' → Q v H') → r x y H Q
theorem op2_sound {r : R2} (ta tb : TE) (hr : ∀ x y H Q, Ra.p x H → Rb.p y H → (∀ v H', Same H H' → R.p v H' → Q v H') → r x y H Q) {σ : St} {H : Hp} {Q : VK} (h : tEv X H0 G R σ H Q) : tOp r (tEv X H0 G Ra) (tEv X H0 G Rb) σ H Q := by
  obtain ⟨g, S, q⟩ := h
  exact ⟨g, S, fun v H1 s1 r1 => ⟨g.trans s1, S.up s1, fun y H2 s2 r2 => hr _ _ _ _ (Ra.up s2 r1) r2 fun v H' s3 r3 => q v H' (s1.trans (s2.trans s3)) r3⟩⟩
theorem ev_bin {op : Operator} (ha : Ev X H0 G a Ra) (hb : Ev X H0 G b Rb) (ho : Op2 X (binaryOp op) Ra Rb R) : Ev X H0 G (.BinOp a op b pos) R := by
  obtain ⟨r, ho, hr⟩ := ho
  exact PE_imp (pe_op ho ha hb) fun σ H Q h => op2_sound (tEv X H0 G Ra) (tEv X H0 G Rb) hr h
theorem ev_cmp {op : CmpOp} (ha : Ev X H0 G a Ra) (hb : Ev X H0 G b Rb) (ho : Op2 X (compareOp op) Ra Rb R) (hm : behindInMarks op b = false) : Ev X H0 G (.Compare a [op] [b] pos) R := by
  obtain ⟨r, ho, hr⟩ := ho
  exact PE_imp (pe_cmpR ho ha hb hm) fun σ H Q h => op2_sound (tEv X H0 G Ra) (tEv X H0 G Rb) hr h
theorem tv_cmp {op : CmpOp} (ha : Ev X H0 G a Ra) (hb : Ev X H0 G b Rb) (ho : Op2 X (compareOp op) Ra Rb (blR u)) (hm : behindInMarks op b = false) : Tv X H0 G (.Compare a [op] [b] pos) u := by
  obtain ⟨r, ho, hr⟩ := ho
  refine PT_imp (pt_cmpR ho ha hb hm) fun σ H Q h => ?_
  obtain ⟨g, S, q⟩ := h
  exact op2_sound (R := blR u) (tEv X H0 G Ra) (tEv X H0 G Rb) hr ⟨g, S, fun v H' s r => ⟨u, r, q H' s⟩⟩

theorem tchain_sound {r r' : R2} (hr : ∀ x y H Q, Ra.p x H → Rb.p y H → (∀ v H', Same H H' → (blR u).p v H' → Q v H') → r x y H Q)
    (hr' : u = true → ∀ x y H Q, Rb.p x H → Rc.p y H → (∀ z H', Same H H' → (blR v).p z H' → Q z H') → r' x y H Q) {σ : St} {H : Hp} {Q : VK} (h : tEv X H0 G (blR (u && v)) σ H Q) :
    tChain r r' (tEv X H0 G Ra) (tEv X H0 G Rb) (tEv X H0 G Rc) σ H Q := by
  obtain ⟨g, S, q⟩ := h
  refine ⟨g, S, fun v1 H1 s1 r1 => ⟨g.trans s1, S.up s1, fun v2 H2 s2 r2 => hr _ _ _ _ (Ra.up s2 r1) r2 fun z H3 s3 r3 => ⟨u, r3, ?_⟩⟩⟩
  cases u with
  | false => exact iteF (q _ _ (s1.trans (s2.trans s3)) rfl)
  | true =>
    refine iteT ⟨g.trans (s1.trans (s2.trans s3)), S.up (s1.trans (s2.trans s3)), fun v4 H4 s4 r4 => hr' rfl _ _ _ _ (Rb.up (s3.trans s4) r2) r4 fun z H5 s5 r5 => ?_⟩
    exact q z H5 (s1.trans (s2.trans (s3.trans (s4.trans s5)))) (by rw [Bool.true_and]; exact r5)
theorem ev_chain {op op' : CmpOp} (ha : Ev X H0 G a Ra) (hb : Ev X H0 G b Rb) (ho : Op2 X (compareOp op) Ra Rb (blR u)) (hc : Ev X H0 G c Rc) (ho' : Op2 X (compareOp op') Rb Rc (blR v))
    (hm : lastMarks [op, op'] [b, c] = false) : Ev X H0 G (.Compare a [op, op'] [b, c] pos) (blR (u && v)) := by
  obtain ⟨r, ho, hr⟩ := ho
  obtain ⟨r', ho', hr'⟩ := ho'
  exact PE_imp (pe_chain ho ho' ha hb hc hm) fun σ H Q h => tchain_sound hr (fun _ => hr') h
theorem tv_chain {op op' : CmpOp} (ha : Ev X H0 G a Ra) (hb : Ev X H0 G b Rb) (ho : Op2 X (compareOp op) Ra Rb (blR u)) (hc : Ev X H0 G c Rc) (ho' : Op2 X (compareOp op') Rb Rc (blR v))
    (hm : lastMarks [op, op'] [b, c] = false) : Tv X H0 G (.Compare a [op, op'] [b, c] pos) (u && v) := by
  obtain ⟨r, ho, hr⟩ := ho
  obtain ⟨r', ho', hr'⟩ := ho'
  refine PT_imp (pt_chain ho ho' ha hb hc hm) fun σ H Q h => ?_
  obtain ⟨g, S, q⟩ := h
  exact tchain_sound hr (fun _ => hr') ⟨g, S, fun z H' s r => ⟨_, r, q H' s⟩⟩
theorem ev_un {op : UnaryOp} {r : V → Hp → VK → Prop} (ha : Ev X H0 G a Ra) (ho : UnR X (unaryOp op) r) (hr : ∀ x H Q, Ra.p x H → (∀ v H', Same H H' → R.p v H' → Q v H') → r x H Q) : Ev X H0 G (.UnaryOp op a pos) R := by
  refine PE_imp (pe_un ho ha) fun σ H Q h => ?_
  obtain ⟨g, S, q⟩ := h
  exact ⟨g, S, fun v1 H1 s1 r1 => hr _ _ _ r1 fun z H2 s2 r2 => q z H2 (s1.trans s2) r2⟩
theorem ev_neg {i : Int} (ha : Ev X H0 G a (intR i)) : Ev X H0 G (.UnaryOp .USub a pos) (intR (-i)) := ev_un ha un_neg fun x H Q h q => ⟨i, h, q _ _ (Same.refl H) rfl⟩

/-! ### tests -/
theorem tv_val (h : Ev X H0 G e (blR u)) (he : ∀ whole, isTrue e X.env whole = (do let v ← whole; standAt e.pos; holding [v] (truthy v))) : Tv X H0 G e u := by
  refine PT_imp (pt_val h he) fun σ H Q q => ?_
  obtain ⟨g, S, q⟩ := q
  exact ⟨g, S, fun z H' s r => ⟨u, r, q H' s⟩⟩
theorem tv_not (h : Tv X H0 G a u) : Tv X H0 G (.UnaryOp .Not a pos) (!u) := by
  refine PT_imp (pt_not h) fun σ H Q q => ?_
  obtain ⟨g, S, q⟩ := q
  exact ⟨g, S, fun H' s => q H' s⟩
theorem ev_not (h : Ev X H0 G a (blR u)) : Ev X H0 G (.UnaryOp .Not a pos) (blR (!u)) := by
  refine PE_imp (pe_not h) fun σ H Q q => ?_
  obtain ⟨g, S, q⟩ := q
  exact ⟨g, S, fun v H' s r => ⟨u, r, q _ H' s rfl⟩⟩
theorem tv_w (h : Wv X H0 G e u) : Tv X H0 G e u := h.pt
theorem wv_and1 (h : Tv X H0 G a u) : Wv X H0 G (.BoolOp .And [a] pos) u := pw_and1 h
theorem wv_or1 (h : Tv X H0 G a u) : Wv X H0 G (.BoolOp .Or [a] pos) u := pw_or1 h
theorem wv_and {rest : List Expr} (ha : Tv X H0 G a u) (hb : u = true → Wv X H0 G (.BoolOp .And (b :: rest) pos) v) : Wv X H0 G (.BoolOp .And (a :: b :: rest) pos) (u && v) := by
  cases u with
  | false =>
    refine PW_imp (pw_and (tB' := fun _ _ _ => False) ha ⟨fun _ _ _ _ _ _ _ h => h.elim⟩) fun σ H Q q => ?_
    obtain ⟨g, S, q⟩ := q
    exact ⟨g, S, fun H' s => iteF (q H' s)⟩
  | true =>
    refine PW_imp (pw_and ha (hb rfl)) fun σ H Q q => ?_
    obtain ⟨g, S, q⟩ := q
    exact ⟨g, S, fun H' s => iteT ⟨g.trans s, S.up s, fun H2 s2 => by have z := q H2 (s.trans s2); rw [Bool.true_and] at z; exact z⟩⟩
theorem wv_or {rest : List Expr} (ha : Tv X H0 G a u) (hb : u = false → Wv X H0 G (.BoolOp .Or (b :: rest) pos) v) : Wv X H0 G (.BoolOp .Or (a :: b :: rest) pos) (u || v) := by
  cases u with
  | true =>
    refine PW_imp (pw_or (tB' := fun _ _ _ => False) ha ⟨fun _ _ _ _ _ _ _ h => h.elim⟩) fun σ H Q q => ?_
    obtain ⟨g, S, q⟩ := q
    exact ⟨g, S, fun H' s => iteT (q H' s)⟩
  | false =>
    refine PW_imp (pw_or ha (hb rfl)) fun σ H Q q => ?_
    obtain ⟨g, S, q⟩ := q
    exact ⟨g, S, fun H' s => iteF ⟨g.trans s, S.up s, fun H2 s2 => by have z := q H2 (s.trans s2); rw [Bool.false_or] at z; exact z⟩⟩
theorem ev_one {op : BoolOp} (h : Ev X H0 G a R) : Ev X H0 G (.BoolOp op [a] pos) R := pe_one h
theorem ev_and {rest : List Expr} (ha : Ev X H0 G a (blR u)) (hb : u = true → Ev X H0 G (.BoolOp .And (b :: rest) pos) (blR v)) : Ev X H0 G (.BoolOp .And (a :: b :: rest) pos) (blR (u && v)) := by
  cases u with
  | false =>
    refine PE_imp (pe_and (tb := fun _ _ _ => False) ha ⟨fun _ _ _ _ _ _ h => h.elim⟩) fun σ H Q q => ?_
    obtain ⟨g, S, q⟩ := q
    exact ⟨g, S, fun z H' s r => ⟨false, r, iteF (q _ H' s rfl)⟩⟩
  | true =>
    refine PE_imp (pe_and ha (hb rfl)) fun σ H Q q => ?_
    obtain ⟨g, S, q⟩ := q
    exact ⟨g, S, fun z H' s r => ⟨true, r, iteT ⟨g.trans s, S.up s, fun z2 H2 s2 r2 => q _ H2 (s.trans s2) (by rw [Bool.true_and]; exact r2)⟩⟩⟩
theorem ev_or {rest : List Expr} (ha : Ev X H0 G a (blR u)) (hb : u = false → Ev X H0 G (.BoolOp .Or (b :: rest) pos) (blR v)) : Ev X H0 G (.BoolOp .Or (a :: b :: rest) pos) (blR (u || v)) := by
  cases u with
  | true =>
    refine PE_imp (pe_or (tb := fun _ _ _ => False) ha ⟨fun _ _ _ _ _ _ h => h.elim⟩) fun σ H Q q => ?_
    obtain ⟨g, S, q⟩ := q
    exact ⟨g, S, fun z H' s r => ⟨true, r, iteT (q _ H' s rfl)⟩⟩
  | false =>
    refine PE_imp (pe_or ha (hb rfl)) fun σ H Q q => ?_
    obtain ⟨g, S, q⟩ := q
    exact ⟨g, S, fun z H' s r => ⟨false, r, iteF ⟨g.trans s, S.up s, fun z2 H2 s2 r2 => q _ H2 (s.trans s2) (by rw [Bool.false_or]; exact r2)⟩⟩⟩
theorem ev_ifExp (hc : Tv X H0 G c u) (ha : u = true → Ev X H0 G a R) (hb : u = false → Ev X H0 G b R) : Ev X H0 G (.IfExp c a b pos) R := by
  cases u with
  | true =>
    refine PE_imp (pe_ifExp hc (ha rfl) (tb := fun _ _ _ => False) ⟨fun _ _ _ _ _ _ h => h.elim⟩) fun σ H Q q => ?_
    obtain ⟨g, S, q⟩ := q
    exact ⟨g, S, fun H' s => iteT ⟨g.trans s, S.up s, fun z2 H2 s2 r2 => q _ H2 (s.trans s2) r2⟩⟩
  | false =>
    refine PE_imp (pe_ifExp hc (ta := fun _ _ _ => False) ⟨fun _ _ _ _ _ _ h => h.elim⟩ (hb rfl)) fun σ H Q q => ?_
    obtain ⟨g, S, q⟩ := q
    exact ⟨g, S, fun H' s => iteF ⟨g.trans s, S.up s, fun z2 H2 s2 r2 => q _ H2 (s.trans s2) r2⟩⟩

/-! ### argument lists, displays, calls -/
theorem av_nil : Av X H0 G [] [] := PA_imp pa_nil fun _ H _ q => q.2.2 [] H (Same.refl H) trivial
theorem av_cons (ha : Ev X H0 G e R) (hr : Av X H0 G es Rs) (hs : starEach (e :: es) X.env = (false, eval e X.env) :: starEach es X.env) : Av X H0 G (e :: es) (R :: Rs) := by
  refine PA_imp (pa_cons ha hr hs) fun σ H Q q => ?_
  obtain ⟨g, S, q⟩ := q
  exact ⟨g, S, fun v H1 s1 r1 => ⟨g.trans s1, S.up s1, fun vs H2 s2 r2 => q _ H2 (s1.trans s2) ⟨R.up s2 r1, r2⟩⟩⟩
/-- a tuple, a list of just these -/
def tupR (Rs : List Rel) : Rel := ⟨fun v H => ∃ a vs, v = .ref a ∧ H a = some (.tup vs) ∧ Args Rs vs H, fun s ⟨a, vs, e, h, r⟩ => ⟨a, vs, e, s _ _ h, r.up s⟩⟩
def lstR (Rs : List Rel) : Rel := ⟨fun v H => ∃ a vs, v = .ref a ∧ H a = some (.lst vs) ∧ Args Rs vs H, fun s ⟨a, vs, e, h, r⟩ => ⟨a, vs, e, s _ _ h, r.up s⟩⟩
theorem same_new {H : Hp} {p : Addr} {o : HO} (h : H p = none) : Same H (upd H p o) := fun b u q => by rw [upd_ne (ne_of_none q h)]; exact q
theorem small {n : Nat} (h : n ≤ 1000) : n ≤ sizeLine := Nat.le_of_lt (small1000 h)
theorem ev_tup {k : Nat} (h : Av X H0 G es Rs) (hl : Rs.length ≤ 1000) : Ev X H0 G (.Tuple es k pos) (tupR Rs) := by
  refine PE_imp (pe_tup h) fun σ H Q q => ?_
  obtain ⟨g, S, q⟩ := q
  exact ⟨g, S, fun vs H1 s1 r1 => ⟨small (by rw [r1.length]; exact hl), fun p hp => q _ _ (s1.trans (same_new hp)) ⟨p, vs, rfl, upd_same, r1.up (same_new hp)⟩⟩⟩
theorem ev_lst (h : Av X H0 G es Rs) (hl : Rs.length ≤ 1000) : Ev X H0 G (.List es pos) (lstR Rs) := by
  refine PE_imp (pe_lst h) fun σ H Q q => ?_
  obtain ⟨g, S, q⟩ := q
  exact ⟨g, S, fun vs H1 s1 r1 => ⟨small (by rw [r1.length]; exact hl), fun p hp => q _ _ (s1.trans (same_new hp)) ⟨p, vs, rfl, upd_same, r1.up (same_new hp)⟩⟩⟩
/-- a def of the text may be called with such values and hands back such a one -/
def CallOk (X : Cx) (x : Str) (Rs : List Rel) (R : Rel) : Prop := ∃ (CX : CXT) (E : XK) (k : Nat) (f : Addr) (fd : FuncData) (ps : List Str) (sp : Sp) (ds : List Value) (dvs : List V),
  FnOk X.prog X.w X.K X.mg X.base CX k f fd ps sp ∧ Room k X.A ∧ X.mg x = some (.ref f) ∧ PySem.W.keepIn X.K (.ref f) = true ∧ Binds X.K fd ps ds ∧ Vals dvs ds ∧ (∀ Y : Cx, Y.prog = X.prog → Y.w = X.w → Passes CX Y E) ∧
  ∀ vs H Q, Args Rs vs H → (∀ v H', Same H H' → R.p v H' → Q v H') → sp (vs ++ dvs) H Q E
/-- arguments that are at least such -/
inductive ArgsLe : List Rel → List Rel → Prop
  | nil : ArgsLe [] []
  | cons {S S' : Rel} {Ss Ss' : List Rel} (h : S.le S') (t : ArgsLe Ss Ss') : ArgsLe (S :: Ss) (S' :: Ss')
theorem ArgsLe.args {Ss Ss' : List Rel} (l : ArgsLe Ss Ss') : ∀ {vs : List V} {H : Hp}, Args Ss vs H → Args Ss' vs H := by
  induction l with
  | nil => intro vs H a; exact a
  | cons h t ih =>
    intro vs H a
    match vs, a with
    | v :: vs, a => exact ⟨h _ _ a.1, ih a.2⟩
theorem ev_call {Rs' : List Rel} (hc : CallOk X x Rs R) (ha : Av X H0 G (e :: es) Rs') (hl : ArgsLe Rs' Rs) (hg : Gl X x) (hdb : (x == ("__debug__" : Str)) = false) (he : starEach (e :: es) X.env = (false, eval e X.env) :: starEach es X.env)
    (hpl : (backTo pos (starEach es X.env)).any (·.1) = false) : Ev X H0 G (.Call (.Name x p) (e :: es) [] pos) R := by
  obtain ⟨CX, E, k, f, fd, ps, sp, ds, dvs, F, hr, hm, hk, hb, hd, hx, hsp⟩ := hc
  refine PE_imp (pe_call F hr hg hm hk hb hd (hx X rfl rfl) ha hdb he hpl) fun σ H Q q => ?_
  obtain ⟨g, S, q⟩ := q
  exact ⟨g, S, fun vs H1 s1 r1 => hsp _ _ _ (hl.args r1) fun v H2 s2 r2 => q v H2 (s1.trans s2) r2⟩
/-- a built-in function | type may be called so -/
def CallB (X : Cx) (x : Str) (Rs : List Rel) (R : Rel) : Prop := X.mg x = none ∧ ∃ (f : Value) (r : List V → Hp → VK → Prop), CallR X f r ∧ bootBuiltins x = some f ∧ ((∃ id, f = .builtin id) ∨ ∃ T, f = .type T) ∧
  ∀ vs H Q, Args Rs vs H → (∀ v H', Same H H' → R.p v H' → Q v H') → r vs H Q
theorem ev_callB (ha : Av X H0 G (e :: es) Rs) (hc : CallB X x Rs R) (hg : Gl X x) (hn : x ≠ "__name__") (hdb : (x == ("__debug__" : Str)) = false) (he : starEach (e :: es) X.env = (false, eval e X.env) :: starEach es X.env)
    (hpl : (backTo pos (starEach es X.env)).any (·.1) = false) : Ev X H0 G (.Call (.Name x p) (e :: es) [] pos) R := by
  obtain ⟨hm, f, r, hr, hv, hf, hsp⟩ := hc
  have snd : ∀ σ H Q, tEv X H0 G R σ H Q → tCB r (tAv X H0 G Rs) σ H Q := fun σ H Q q => by
    obtain ⟨g, S, q⟩ := q
    exact ⟨g, S, fun vs H1 s1 r1 => hsp _ _ _ r1 fun v H2 s2 r2 => q v H2 (s1.trans s2) r2⟩
  rcases hf with ⟨id, rfl⟩ | ⟨T, rfl⟩
  · exact PE_imp (pe_callB hr hg hm hv ha hn hdb he hpl) snd
  · exact PE_imp (pe_callTy hr hg hm hv ha hn hdb he hpl) snd
/-- a subscript -/
def IxOk (X : Cx) (Ra Rb R : Rel) : Prop := ∃ r, IxR X r ∧ ∀ x y H Q, Ra.p x H → Rb.p y H → (∀ v H', Same H H' → R.p v H' → Q v H') → r x y H Q
theorem ev_ix (ha : Ev X H0 G a Ra) (hb : Ev X H0 G b Rb) (ho : IxOk X Ra Rb R) (hs : PlainIx b) : Ev X H0 G (.Subscript a b pos) R := by
  obtain ⟨r, ho, hr⟩ := ho
  exact PE_imp (pe_ix ho ha hb hs) fun σ H Q h => op2_sound (tEv X H0 G Ra) (tEv X H0 G Rb) hr h

theorem loc_of {N : List Str} {sc : Scope} (h : (N.all fun y => decide ((sc.names.lookup y = some .local ∨ sc.names.lookup y = some .cell) ∨ sc.names.lookup y = none)) = true) : ∀ y ∈ N, Loc sc y ∨ sc.names.lookup y = none := fun y hy => by
  have q := List.all_eq_true.mp h y hy
  exact (decide_eq_true_iff (p := (sc.names.lookup y = some .local ∨ sc.names.lookup y = some .cell) ∨ sc.names.lookup y = none)).mp q
theorem nn_of {X : Cx} {x : Str} {sc : Scope} (hs : X.env.scope = sc) (h : sc.names.lookup x ≠ none) : X.env.scope.names.lookup x ≠ none := by
  rw [hs]
  exact h
theorem gl_of {sc : Scope} (hs : X.env.scope = sc) (h : sc.names.lookup x = some .globalImplicit) : Gl X x := by
  show X.env.scope.names.lookup x = _
  rw [hs]
  exact h
/-! ### blocks -/
theorem bv_nil : Bv X H0 G [] (some G) R := PSs_imp pss_nil fun D σ H q => q.2.2.1 _ _ _ rfl (Same.refl H) q.2.1
theorem Sv.ret {st : Stmt} {sts : List Stmt} (h : Sv X H0 G st none R) : Bv X H0 G (st :: sts) G' R := by
  refine PSs_imp (pss_cons h pss_never) fun D σ H q => ?_
  obtain ⟨g, S, _, q⟩ := q
  exact ⟨g, S, fun _ _ _ z => (nomatch z), q⟩
theorem bv_cons {st : Stmt} {sts : List Stmt} (h : Sv X H0 G st (some G1) R) (h2 : Bv X H0 G1 sts G' R) : Bv X H0 G (st :: sts) G' R := by
  refine PSs_imp (pss_cons h h2) fun D σ H q => ?_
  obtain ⟨g, S, qn, q⟩ := q
  refine ⟨g, S, fun C σ1 H1 e s1 S1 => ?_, q⟩
  cases e
  exact ⟨g.trans s1, S1, fun C σ2 H2 e s2 S2 => qn C σ2 H2 e (s1.trans s2) S2, fun v H2 s2 r => q v H2 (s1.trans s2) r⟩
theorem bv_ret {sts : List Stmt} (h : Ev X H0 G e Ra) (l : Ra.le R) : Bv X H0 G (.Return (some e) pos :: sts) G' R := by
  refine Sv.ret (PS_imp (ps_ret h) fun D σ H q => ?_)
  obtain ⟨g, S, _, q⟩ := q
  exact ⟨g, S, fun v H' s r => q v H' s (l _ _ r)⟩
theorem bv_set {sts : List Stmt} {i : Nat} {pos' : Pos} (B : Body X) (hx : X.env.scope.names.lookup x ≠ none) (h : Ev X H0 G e Ra) (c : SetCtx x (some Ra) G G1 i) (h2 : Bv X H0 G1 sts G' R) (hs : swapsWith e (some (.Name x pos')) pos.line X.env = pure false) :
    Bv X H0 G (.Assign [.Name x pos'] e pos :: sts) G' R := by
  refine bv_cons (G1 := G1) ?_ h2
  by_cases hN : X.N = G.map (·.1)
  · have hi : X.N[i]? = some x := by rw [hN]; exact c.name
    refine PS_imp (ps_set (i := i) B.nd hi (B.locOf (List.mem_of_getElem? hi) hx) h hs (.inl (B.fn x))) fun D σ H q => ?_
    obtain ⟨g, S, qn, q⟩ := q
    exact ⟨g, S, fun v H' s r => qn _ _ _ rfl s (Slots.set (vis_of_loc (B.locOf (List.mem_of_getElem? hi) hx)) c (S.up s) r)⟩
  · exact PS_imp ps_never fun D σ H q => hN q.2.1.1
theorem bv_expr {sts : List Stmt} (h : Ev X H0 G e Ra) (h2 : Bv X H0 G sts G' R) (hs : swapsWith e none pos.line X.env = pure false) : Bv X H0 G (.Expr e pos :: sts) G' R := by
  refine bv_cons (G1 := G) (PS_imp (ps_expr h hs) fun D σ H q => ?_) h2
  obtain ⟨g, S, qn, q⟩ := q
  exact ⟨g, S, fun v H' s r => qn _ _ _ rfl s (S.up s)⟩
/-- an if; a branch hands back (none) or is followed by the rest from what it leaves -/
theorem sv_if {t f : List Stmt} (hc : Tv X H0 G c u) (ht : u = true → Bv X H0 G t G' R) (hf : u = false → Bv X H0 G f G' R) : Sv X H0 G (.If c t f pos) G' R := by
  cases u with
  | true =>
    refine PS_imp (ps_if hc (ht rfl) pss_never) fun D σ H q => ?_
    obtain ⟨g, S, qn, q⟩ := q
    exact ⟨g, S, fun H1 s1 => iteT ⟨g.trans s1, S.up s1, fun C σ2 H2 e s2 S2 => qn C σ2 H2 e (s1.trans s2) S2, fun v H2 s2 r => q v H2 (s1.trans s2) r⟩⟩
  | false =>
    refine PS_imp (ps_if hc pss_never (hf rfl)) fun D σ H q => ?_
    obtain ⟨g, S, qn, q⟩ := q
    exact ⟨g, S, fun H1 s1 => iteF ⟨g.trans s1, S.up s1, fun C σ2 H2 e s2 S2 => qn C σ2 H2 e (s1.trans s2) S2, fun v H2 s2 r => q v H2 (s1.trans s2) r⟩⟩
theorem bv_if {t f sts : List Stmt} (hc : Tv X H0 G c u) (ht : u = true → Bv X H0 G t (some G1) R) (ht2 : u = true → Bv X H0 G1 sts G' R) (hf : u = false → Bv X H0 G f (some G2) R) (hf2 : u = false → Bv X H0 G2 sts G' R) :
    Bv X H0 G (.If c t f pos :: sts) G' R := by
  cases u with
  | true => exact bv_cons (sv_if (u := true) (G' := some G1) hc (fun _ => ht rfl) (fun z => nomatch z)) (ht2 rfl)
  | false => exact bv_cons (sv_if (u := false) (G' := some G2) hc (fun z => nomatch z) (fun _ => hf rfl)) (hf2 rfl)
/-- a way that cannot be -/
theorem bv_never {sts : List Stmt} {x : Str} {R0 : Rel} (hn : ∀ v H, ¬ R0.p v H) : Bv X H0 ((x, some R0) :: G) sts G' R := PSs_imp pss_never fun D σ H q => by
  obtain ⟨_, v, _, r⟩ := q.2.1.2.2 0 x R0 rfl
  exact hn _ _ r
/-- contexts that tell less -/
inductive CtxLe : Ctx → Ctx → Prop
  | nil : CtxLe [] []
  | some {x : Str} {S S' : Rel} {C C' : Ctx} (h : S.le S') (t : CtxLe C C') : CtxLe ((x, some S) :: C) ((x, some S') :: C')
  | none {x : Str} {o : Option Rel} {C C' : Ctx} (t : CtxLe C C') : CtxLe ((x, o) :: C) ((x, none) :: C')
theorem CtxLe.names {C C' : Ctx} (h : CtxLe C C') : C'.map (·.1) = C.map (·.1) ∧ C'.length = C.length := by
  induction h with
  | nil => exact ⟨rfl, rfl⟩
  | some _ _ ih => simp [ih]
  | none _ ih => simp [ih]
theorem CtxLe.get {C C' : Ctx} (h : CtxLe C C') : ∀ {i : Nat} {x : Str} {S' : Rel}, C'[i]? = Option.some (x, Option.some S') → ∃ S, C[i]? = Option.some (x, Option.some S) ∧ S.le S' := by
  induction h with
  | nil => intro i x S' e; simp at e
  | some h _ ih =>
    intro i x S' e
    cases i with
    | zero => simp at e; obtain ⟨rfl, rfl⟩ := e; exact ⟨_, rfl, h⟩
    | succ i => exact ih (i := i) (by simpa using e)
  | none _ ih =>
    intro i x S' e
    cases i with
    | zero => simp at e
    | succ i => exact ih (i := i) (by simpa using e)
theorem Slots.le {C C' : Ctx} {σ : St} {H : Hp} (l : CtxLe C C') (h : Slots X C σ H) : Slots X C' σ H := by
  refine ⟨by rw [l.names.1]; exact h.1, by rw [l.names.2]; exact h.2.1, fun i x R e => ?_⟩
  obtain ⟨S, e', l'⟩ := l.get e
  obtain ⟨k, v, a, b⟩ := h.2.2 i x S e'
  exact ⟨k, v, a, l' _ _ b⟩
theorem bv_le {sts : List Stmt} (l : CtxLe G G1) (h : Bv X H0 G1 sts G' R) : Bv X H0 G sts G' R := PSs_imp h fun D σ H q => ⟨q.1, q.2.1.le l, q.2.2⟩
/-- if c: (hands back) .. rest -/
theorem bv_ifr {t sts : List Stmt} (hc : Tv X H0 G c u) (ht : u = true → Bv X H0 G t none R) (hf2 : u = false → Bv X H0 G sts G' R) : Bv X H0 G (.If c t [] pos :: sts) G' R := by
  cases u with
  | true => exact Sv.ret (sv_if (u := true) hc (fun _ => ht rfl) (fun z => nomatch z))
  | false => exact bv_cons (sv_if (u := false) (G' := some G) hc (fun z => nomatch z) (fun _ => bv_nil)) (hf2 rfl)
end
/-- a def that is pure: such arguments, such an answer -/
def spF {α : Type} (args : α → List Rel) (side : α → Prop) (post : α → Rel) : Sp := fun vs H Q _ => ∃ x : α, side x ∧ Args (args x) vs H ∧ ∀ v H', Same H H' → (post x).p v H' → Q v H'
/-- the context at a def's entry -/
def ctx0 : List Str → List Rel → Ctx
  | x :: xs, R :: Rs => (x, some R) :: ctx0 xs Rs
  | x :: xs, [] => (x, none) :: ctx0 xs []
  | [], _ => []
theorem ctx0_names : ∀ {N : List Str} {Rs : List Rel}, (ctx0 N Rs).map (·.1) = N
  | [], [] => rfl
  | [], _ :: _ => rfl
  | x :: xs, [] => by show x :: (ctx0 xs []).map (·.1) = _; rw [ctx0_names]
  | x :: xs, R :: Rs => by show x :: (ctx0 xs Rs).map (·.1) = _; rw [ctx0_names]
theorem ctx0_get : ∀ {N : List Str} {Rs : List Rel} {i : Nat} {x : Str} {R : Rel}, (ctx0 N Rs)[i]? = some (x, some R) → Rs[i]? = some R
  | [], [], _, _, _, h => by simp [ctx0] at h
  | [], _ :: _, _, _, _, h => by simp [ctx0] at h
  | x :: xs, [], 0, _, _, h => by simp [ctx0] at h
  | x :: xs, [], i + 1, y, R, h => by
    have q := ctx0_get (N := xs) (Rs := []) (i := i) (x := y) (R := R) (by simpa [ctx0] using h)
    simp at q
  | x :: xs, R :: Rs, 0, _, _, h => by
    simp [ctx0] at h
    simp [h.2]
  | x :: xs, R :: Rs, i + 1, y, R', h => by
    have q := ctx0_get (N := xs) (Rs := Rs) (i := i) (x := y) (R := R') (by simpa [ctx0] using h)
    simpa using q
theorem Args.get : ∀ {Rs : List Rel} {vs : List V} {H : Hp} {i : Nat} {R : Rel}, Args Rs vs H → Rs[i]? = some R → ∃ v, vs[i]? = some v ∧ R.p v H
  | [], [], _, _, _, _, h => by simp at h
  | R :: Rs, v :: vs, H, 0, S, a, h => by simp at h; subst h; exact ⟨v, rfl, a.1⟩
  | R :: Rs, v :: vs, H, i + 1, S, a, h => by
    obtain ⟨w, e, r⟩ := Args.get (i := i) a.2 (by simpa using h)
    exact ⟨w, by simpa using e, r⟩
  | [], _ :: _, _, _, _, a, _ => a.elim
  | _ :: _, [], _, _, _, a, _ => a.elim
theorem ctx0_mem {N : List Str} {Rs : List Rel} {i : Nat} {x : Str} {o : Option Rel} (h : (ctx0 N Rs)[i]? = some (x, o)) : x ∈ N := by
  rw [← ctx0_names (N := N) (Rs := Rs)]
  exact List.mem_map.mpr ⟨_, List.mem_of_getElem? h, rfl⟩
theorem slots0 {X : Cx} {N : List Str} {Rs : List Rel} {vs : List V} {H : Hp} (hv : ∀ (i : Nat) (x : Str), i < Rs.length → N[i]? = some x → Vis X.env.scope x) (hN : X.N = N) (a : Args Rs vs H) (hl : Rs.length ≤ N.length) : Slots X (ctx0 N Rs) (L2.start N vs) H := by
  have e1 := a.length
  refine ⟨by rw [ctx0_names]; exact hN, ?_, fun i x R h => ?_⟩
  · have e2 : (ctx0 N Rs).length = N.length := by rw [← List.length_map (f := (·.1)), ctx0_names]
    unfold L2.start
    rw [e2, List.length_append, List.length_map, List.length_replicate]
    omega
  · obtain ⟨v, e, r⟩ := a.get (ctx0_get h)
    have hq : N[i]? = some x := by rw [← ctx0_names (N := N) (Rs := Rs), List.getElem?_map, h]; rfl
    refine ⟨hv i x (List.getElem?_eq_some_iff.mp (ctx0_get h)).1 hq, v, ?_, r⟩
    unfold L2.start
    have hi : i < vs.length := (List.getElem?_eq_some_iff.mp e).1
    rw [List.getElem?_append_left (by simpa using hi), List.getElem?_map, e]
    rfl
section
variable {P : Program} {w : World} {K : PySem.W.Frag} {mg : Str → Option Value} {base : Heap}
/-- a def of the text, at its name -/
structure DefAt (K : PySem.W.Frag) (mg : Str → Option Value) (x : Str) (st : Stmt) : Prop where
  ex : ∃ f fd, Fun K x x st f fd ∧ mg x = some (.ref f)
/-- it keeps a promise -/
structure DefOk (P : Program) (w : World) (K : PySem.W.Frag) (mg : Str → Option Value) (base : Heap) (x : Str) (CX : CXT) (k : Nat) (ps : List Str) (ds : List V) (sp : Sp) : Prop where
  ex : ∃ f fd dv, FnOk P w K mg base CX k f fd ps sp ∧ mg x = some (.ref f) ∧ PySem.W.keepIn K (.ref f) = true ∧ Binds K fd ps dv ∧ Vals ds dv
theorem DefOk.at {X : Cx} {x : Str} {k : Nat} {ps : List Str} {α : Type} {args : α → List Rel} {side : α → Prop} {post : α → Rel} (D : DefOk X.prog X.w X.K X.mg X.base x CX0 k ps [] (spF args side post)) (hr : Room k X.A) (a : α) (h : side a) :
    CallOk X x (args a) (post a) := by
  obtain ⟨f, fd, dv, F, hm, hk, hb, hd⟩ := D.ex
  refine ⟨CX0, E0, k, f, fd, ps, _, dv, [], F, hr, hm, hk, hb, hd, fun _ _ _ => pass0, fun vs H Q hv q => ?_⟩
  rw [List.append_nil]
  exact ⟨a, h, hv, q⟩
abbrev bcx (P : Program) (w : World) (K : PySem.W.Frag) (mg : Str → Option Value) (base : Heap) (N : List Str) (qual : Str) (sc : Scope) (f : Addr) (cd : Value) (A : Around) (outer : List Env) (s : Shared) (H : Hp) (E : XK) : Cx := (cxOf CX0 P w K mg base N qual sc f cd A outer s H E).nox
/-- THE RULE for a pure def -/
theorem pure_fn {x : Str} {st : Stmt} {N ps : List Str} {k : Nat} {α : Type} {args : α → List Rel} {side : α → Prop} {post : α → Rel} {f : Addr} {fd : FuncData} (F : Fun K x x st f fd) (S : FnScope N ps (defScope st)) (loc : ∀ y ∈ N, Loc (defScope st) y ∨ (defScope st).names.lookup y = none) (hl : ∀ a, (args a).length = ps.length)
    (h : ∀ (a : α) (X : Cx) (H0 : Hp), side a → Body X → X.prog = P → X.w = w → X.K = K → X.mg = mg → X.base = base → X.env.scope = defScope st → X.N = N → Room k X.A → ∃ G', Bv X H0 (ctx0 N (args a)) (defBody st) G' (post a) ∧ (∀ C, G' = some C → ∀ H, (post a).p .non H)) :
    FnOk P w K mg base CX0 (k + 1) f fd ps (spF args side post) := by
  refine F.ok S (fun vs H Q E hs => ?_) (fun cdv A outer s H vs Q E hr hs => ?_)
  · obtain ⟨a, _, ha, _⟩ := hs
    rw [ha.length, hl]
  · obtain ⟨a, hsd, ha, q⟩ := hs
    obtain ⟨G', hB, hn⟩ := h a (cxOf CX0 P w K mg base N x (defScope st) f cdv A outer s H E).nox H hsd ⟨rfl, S.nd, loc, fun _ => rfl, PassesOwn.never⟩ rfl rfl rfl rfl rfl rfl rfl hr
    refine ⟨_, hB, Same.refl H, slots0 (fun i y hi hy => ?_) rfl ha ?_, fun C σ' H' e s' _ => q _ _ s' (hn C e _), fun v H' s' r => q v H' s' r⟩
    · refine vis_of_loc (S.par y ?_)
      rw [← S.pre]
      rw [hl] at hi
      exact List.mem_of_getElem? (i := i) (by rw [List.getElem?_take, if_pos hi]; exact hy)
    rw [hl]
    have := congrArg List.length S.pre
    rw [List.length_take] at this
    omega
theorem pure_ok {x : Str} {st : Stmt} {N ps : List Str} {k : Nat} {α : Type} {args : α → List Rel} {side : α → Prop} {post : α → Rel} (F : DefAt K mg x st) (S : FnScope N ps (defScope st)) (loc : ∀ y ∈ N, Loc (defScope st) y ∨ (defScope st).names.lookup y = none) (hl : ∀ a, (args a).length = ps.length)
    (hb : ∀ (kV doc pm : Value) (an : Option Addr) (cdv ct : Value) (us : List Value), us.length = ps.length → bindArgs (PySem.W.fnOf x x (defArgs st) (defBody st) (defScope st) .none kV doc pm an cdv ct) ⟨us, []⟩ = pure (ps.zip us))
    (h : ∀ (a : α) (X : Cx) (H0 : Hp), side a → Body X → X.prog = P → X.w = w → X.K = K → X.mg = mg → X.base = base → X.env.scope = defScope st → X.N = N → Room k X.A → ∃ G', Bv X H0 (ctx0 N (args a)) (defBody st) G' (post a) ∧ (∀ C, G' = some C → ∀ H, (post a).p .non H)) :
    DefOk P w K mg base x CX0 (k + 1) ps [] (spF args side post) := by
  obtain ⟨f, fd, F, hm⟩ := F.ex
  exact ⟨f, fd, [], pure_fn F S loc hl h, hm, F.kp, F.binds hb, .nil⟩
theorem defAt_mk {x : Str} {st : Stmt} {h : Heap} {f : Addr} {oc : Value} {od an : Option Addr} {osl : Array (Option Value)} {kV doc pm cdv ct : Value} (X : K.In h) (G : h.Ns mainGlobals mg) (a : PySem.W.nsIn K mainGlobals x = some (some (.ref f)))
    (l : K.lookup f = some ⟨oc, od, .func (PySem.W.fnOf x x (defArgs st) (defBody st) (defScope st) .none kV doc pm an cdv ct), osl⟩) (c : PySem.W.codeIn K cdv x = true) (k : PySem.W.keepIn K (.ref f) = true) : DefAt K mg x st := ⟨_, _, fun_mk l c k, PySem.W.mg_of X G a⟩
/-- THE RULE for a pure def that calls itself: a measure falls at its own calls -/
theorem pure_rec {x : Str} {st : Stmt} {N ps : List Str} (c : Nat) {α : Type} {args : α → List Rel} {side : α → Prop} {post : α → Rel} (meas : α → Nat) (F : DefAt K mg x st) (S : FnScope N ps (defScope st)) (loc : ∀ y ∈ N, Loc (defScope st) y ∨ (defScope st).names.lookup y = none) (hl : ∀ a, (args a).length = ps.length)
    (hb : ∀ (kV doc pm : Value) (an : Option Addr) (cdv ct : Value) (us : List Value), us.length = ps.length → bindArgs (PySem.W.fnOf x x (defArgs st) (defBody st) (defScope st) .none kV doc pm an cdv ct) ⟨us, []⟩ = pure (ps.zip us))
    (h : ∀ (a : α) (X : Cx) (H0 : Hp), side a → (∀ a', side a' → meas a' < meas a → CallOk X x (args a') (post a')) → Body X → X.prog = P → X.w = w → X.K = K → X.mg = mg → X.base = base → X.env.scope = defScope st → X.N = N → Room c X.A → ∃ G', Bv X H0 (ctx0 N (args a)) (defBody st) G' (post a) ∧ (∀ C, G' = some C → ∀ H, (post a).p .non H)) :
    ∀ n : Nat, DefOk P w K mg base x CX0 (n + c + 1) ps [] (spF args (fun a => side a ∧ meas a < n) post)
  | 0 => pure_ok F S loc hl hb fun a X H0 hs => absurd hs.2 (Nat.not_lt_zero _)
  | n + 1 => pure_ok F S loc hl hb fun a X H0 hs B e1 e2 e3 e4 e5 hsc hN hr => by
    have ih := pure_rec c meas F S loc hl hb h n
    subst e1 e2 e3 e4 e5
    refine h a X H0 hs.1 (fun a' sa' hm => ?_) B rfl rfl rfl rfl rfl hsc hN (hr.mono (by omega))
    have D : CallOk X x (args a') (post a') := ih.at (hr.mono (by omega)) a' ⟨sa', by have := hs.2; omega⟩
    exact D
end
end Fk

/-! operations on whole numbers, truths, texts; own parts -/
namespace Fk
open PySem L2
section
variable {X : Cx} {i j : Int} {u v : Bool} {x y : Str}
theorem op2_I0 {f : Value → Value → Sem Value} {g : Int → Int → V} {R : Rel} (h : OpR X f (rI0 g)) (hg : ∀ H, R.p (g i j) H) : Op2 X f (intR i) (intR j) R :=
  ⟨_, h, fun x y H Q hx hy q => ⟨i, j, hx, hy, q _ _ (Same.refl H) (hg H)⟩⟩
theorem op2_I {f : Value → Value → Sem Value} {C : Int → Int → Prop} {g : Int → Int → V} {R : Rel} (h : OpR X f (rI C g)) (hc : C i j) (hg : ∀ H, R.p (g i j) H) : Op2 X f (intR i) (intR j) R :=
  ⟨_, h, fun x y H Q hx hy q => ⟨i, j, hx, hy, hc, q _ _ (Same.refl H) (hg H)⟩⟩
theorem o_add : Op2 X (binaryOp .Add) (intR i) (intR j) (intR (i + j)) := op2_I0 op_add fun _ => rfl
theorem o_sub : Op2 X (binaryOp .Sub) (intR i) (intR j) (intR (i - j)) := op2_I0 op_sub fun _ => rfl
theorem o_mul (h : CMul i j) : Op2 X (binaryOp .Mult) (intR i) (intR j) (intR (i * j)) := op2_I op_mul h fun _ => rfl
theorem o_div (h : CDiv i j) : Op2 X (binaryOp .FloorDiv) (intR i) (intR j) (intR (i / j)) := op2_I op_fdiv h fun _ => rfl
theorem o_mod (h : 0 < j) : Op2 X (binaryOp .Mod) (intR i) (intR j) (intR (i % j)) := op2_I op_mod h fun _ => rfl
theorem o_pow (h : CPow i j) : Op2 X (binaryOp .Pow) (intR i) (intR j) (intR (i ^ j.toNat)) := op2_I op_pow h fun _ => rfl
theorem o_lt : Op2 X (compareOp .Lt) (intR i) (intR j) (blR (decide (i < j))) := op2_I0 op_lt fun _ => rfl
theorem o_le : Op2 X (compareOp .LtE) (intR i) (intR j) (blR (decide (i ≤ j))) := op2_I0 op_le fun _ => rfl
theorem o_gt : Op2 X (compareOp .Gt) (intR i) (intR j) (blR (decide (j < i))) := op2_I0 op_gt fun _ => rfl
theorem o_ge : Op2 X (compareOp .GtE) (intR i) (intR j) (blR (decide (j ≤ i))) := op2_I0 op_ge fun _ => rfl
theorem o_eqI : Op2 X (compareOp .Eq) (intR i) (intR j) (blR (decide (i = j))) :=
  ⟨_, op_eq, fun x y H Q hx hy q => by subst hx; subst hy; exact ⟨rfl, q _ _ (Same.refl H) (by show V.bl _ = V.bl _; rw [dec_int, Bool.beq_eq_decide_eq])⟩⟩
theorem o_neI : Op2 X (compareOp .NotEq) (intR i) (intR j) (blR (!decide (i = j))) :=
  ⟨_, op_ne, fun x y H Q hx hy q => by subst hx; subst hy; exact ⟨rfl, q _ _ (Same.refl H) (by show V.bl _ = V.bl _; rw [dec_int, Bool.beq_eq_decide_eq])⟩⟩
theorem o_eqB : Op2 X (compareOp .Eq) (blR u) (blR v) (blR (decide (u = v))) :=
  ⟨_, op_eq, fun x y H Q hx hy q => by subst hx; subst hy; exact ⟨rfl, q _ _ (Same.refl H) (by show V.bl _ = V.bl _; rw [dec_bl]; cases u <;> cases v <;> rfl)⟩⟩
theorem o_neB : Op2 X (compareOp .NotEq) (blR u) (blR v) (blR (!decide (u = v))) :=
  ⟨_, op_ne, fun x y H Q hx hy q => by subst hx; subst hy; exact ⟨rfl, q _ _ (Same.refl H) (by show V.bl _ = V.bl _; rw [dec_bl]; cases u <;> cases v <;> rfl)⟩⟩
theorem o_isB : Op2 X (compareOp .Is) (blR u) (blR v) (blR (decide (u = v))) :=
  ⟨_, op_isBl, fun x y H Q hx hy q => ⟨u, v, hx, hy, q _ _ (Same.refl H) rfl⟩⟩
theorem o_nisB : Op2 X (compareOp .IsNot) (blR u) (blR v) (blR (!decide (u = v))) :=
  ⟨_, op_notBl, fun x y H Q hx hy q => ⟨u, v, hx, hy, q _ _ (Same.refl H) rfl⟩⟩
/-- what has a type -/
def TyIs (K : PySem.W.Frag) (R : Rel) (t : String) : Prop := ∀ v H, R.p v H → TyX K H v (.type t)
theorem ty_int {K : PySem.W.Frag} : TyIs K (intR i) "int" := fun v H h => by cases h; exact .base (.int _)
theorem ty_bl {K : PySem.W.Frag} : TyIs K (blR u) "bool" := fun v H h => by cases h; exact .base (.bl _)
theorem ty_str {K : PySem.W.Frag} : TyIs K (strR x) "str" := fun v H h => by cases h; exact .base (.str _)
theorem ty_non {K : PySem.W.Frag} : TyIs K nonR "NoneType" := fun v H h => by cases h; exact .base .non
theorem ty_tup {K : PySem.W.Frag} {Rs : List Rel} : TyIs K (tupR Rs) "tuple" := fun v H h => by
  obtain ⟨a, vs, rfl, h, _⟩ := h
  exact .base (.tup h)
theorem ty_lst {K : PySem.W.Frag} {Rs : List Rel} : TyIs K (lstR Rs) "list" := fun v H h => by
  obtain ⟨a, vs, rfl, h, _⟩ := h
  exact .base (.lst h)
/-- isinstance(x, T), T a built-in type -/
theorem cb_isi {R : Rel} {t T : String} {b : Bool} (hm : X.mg "isinstance" = none) (ht : TyIs X.K R t) (hk : kitB t T = some b) : CallB X "isinstance" [R, tyR T] (blR b) :=
  ⟨hm, _, _, call_isi, by decide +kernel, .inl ⟨_, rfl⟩, fun vs H Q h q => by
    obtain ⟨v, w, rfl, h1, h2⟩ := h.two
    cases h2
    exact ⟨v, .ty T, .type t, .type T, b, rfl, .ty T, ht _ _ h1, kit_ty hk, q _ _ (Same.refl H) rfl⟩⟩
/-- items of a tuple, of a list -/
theorem ix_tupR {Rs : List Rel} {R : Rel} {n : Nat} (hi : i = (n : Int)) (h : Rs[n]? = some R) : IxOk X (tupR Rs) (intR i) R :=
  ⟨_, ix_tup, fun x y H Q hx hy q => by
    obtain ⟨a, vs, rfl, ha, hs⟩ := hx
    obtain ⟨v, e, r⟩ := hs.get h
    exact ⟨a, vs, i, v, rfl, hy, SqT.of ha, by rw [hi]; exact atI_nat e, q _ _ (Same.refl H) r⟩⟩
theorem ix_lstR {Rs : List Rel} {R : Rel} {n : Nat} (hi : i = (n : Int)) (h : Rs[n]? = some R) : IxOk X (lstR Rs) (intR i) R :=
  ⟨_, ix_list, fun x y H Q hx hy q => by
    obtain ⟨a, vs, rfl, ha, hs⟩ := hx
    obtain ⟨v, e, r⟩ := hs.get h
    exact ⟨a, vs, i, v, rfl, hy, SqL.of ha, by rw [hi]; exact atI_nat e, q _ _ (Same.refl H) r⟩⟩
end

/-! ### == at any depth -/
/-- the value reads as d -/
def DatIs (K : PySem.W.Frag) (R : Rel) (d : PyData) : Prop := ∀ v H, R.p v H → Dp K H v d
section
variable {X : Cx} {Ra Rb : Rel} {d e : PyData}
theorem o_eqD {b : Bool} (hu : X.A.units + 64 < cLine) (ha : DatIs X.K Ra d) (hb : DatIs X.K Rb e) (sd : SeqAt.shaped d = true) (se : SeqAt.shaped e = true) (h : PyData.eqv d e = b) : Op2 X (compareOp .Eq) Ra Rb (blR b) :=
  ⟨_, op_eqD hu, fun x y H Q hx hy q => ⟨d, e, ha _ _ hx, hb _ _ hy, sd, se, q _ _ (Same.refl H) (by rw [h]; rfl)⟩⟩
theorem o_neD {b : Bool} (hu : X.A.units + 64 < cLine) (ha : DatIs X.K Ra d) (hb : DatIs X.K Rb e) (sd : SeqAt.shaped d = true) (se : SeqAt.shaped e = true) (h : PyData.eqv d e = b) : Op2 X (compareOp .NotEq) Ra Rb (blR (!b)) :=
  ⟨_, op_neD hu, fun x y H Q hx hy q => ⟨d, e, ha _ _ hx, hb _ _ hy, sd, se, q _ _ (Same.refl H) (by rw [h]; rfl)⟩⟩
theorem dat_int {K : PySem.W.Frag} {i : Int} : DatIs K (intR i) (.int i) := fun v H h => by cases h; exact .int i
theorem dat_bl {K : PySem.W.Frag} {i : Bool} : DatIs K (blR i) (.bool i) := fun v H h => by cases h; exact .bl i
theorem dat_str {K : PySem.W.Frag} {i : Str} : DatIs K (strR i) (.str i) := fun v H h => by cases h; exact .str i
theorem dat_non {K : PySem.W.Frag} : DatIs K nonR .none := fun v H h => by cases h; exact .non
end

/-! ### own parts -/
def bi : Bool → Int
  | true => 1
  | false => 0
inductive Own where
  | leaf (b : Bool)
  | node (l r : Own)
  deriving DecidableEq
namespace Own
def depth : Own → Nat
  | leaf _ => 0
  | node l r => max l.depth r.depth + 1
def isNode : Own → Bool
  | leaf _ => false
  | node _ _ => true
def dat : Own → PyData
  | leaf b => .int (bi b)
  | node l r => .tuple [l.dat, r.dat]
theorem dat_depth : ∀ o : Own, o.dat.depth = o.depth
  | leaf _ => by simp [dat, PyData.depth, depth]
  | node l r => by simp [dat, PyData.depth, PyData.depthAll, depth, dat_depth l, dat_depth r]
theorem dat_lay : ∀ o : Own, o.dat.canLay0 = true
  | leaf _ => by simp [dat, PyData.canLay0]
  | node l r => by simp [dat, PyData.canLay0, PyData.canLayAll0, dat_lay l, dat_lay r]
theorem shaped {o : Own} (h : o.depth ≤ 64) : SeqAt.shaped o.dat = true := by
  unfold SeqAt.shaped
  rw [dat_lay, dat_depth, decide_eq_true h]
  rfl
theorem bi_eq (a b : Bool) : (bi a == bi b) = decide (a = b) := by cases a <;> cases b <;> rfl
theorem eqv : ∀ a b : Own, PyData.eqv a.dat b.dat = decide (a = b)
  | leaf a, leaf b => by
    simp only [dat, PyData.eqv, bi_eq, leaf.injEq]
  | leaf a, node l r => by simp [dat, PyData.eqv]
  | node l r, leaf a => by simp [dat, PyData.eqv]
  | node l r, node l' r' => by
    simp only [dat, PyData.eqv, PyData.eqvAll, eqv l l', eqv r r', node.injEq, Bool.and_true]
    by_cases h1 : l = l' <;> by_cases h2 : r = r' <;> simp [h1, h2]
end Own
def OwnP : Own → V → Hp → Prop
  | .leaf b, v, _ => v = .int (bi b)
  | .node l r, v, H => ∃ a vl vr, v = .ref a ∧ H a = some (.tup [vl, vr]) ∧ OwnP l vl H ∧ OwnP r vr H
theorem OwnP.up : ∀ {o : Own} {v : V} {H H' : Hp}, Same H H' → OwnP o v H → OwnP o v H'
  | .leaf _, _, _, _, _, h => h
  | .node _ _, _, _, _, s, ⟨a, vl, vr, e, h, hl, hr⟩ => ⟨a, vl, vr, e, s _ _ h, OwnP.up s hl, OwnP.up s hr⟩
def ownR (o : Own) : Rel := ⟨OwnP o, fun s h => h.up s⟩
theorem own_dat {K : PySem.W.Frag} : ∀ (o : Own), DatIs K (ownR o) o.dat
  | .leaf b, v, H, h => by
    cases h
    exact .int _
  | .node l r, v, H, h => by
    obtain ⟨a, vl, vr, rfl, h, hl, hr⟩ := h
    exact .tup (SqT.of h) (.cons (own_dat l _ _ hl) (.cons (own_dat r _ _ hr) .nil))
theorem le_bl {u v : Bool} (h : u = v) : (blR u).le (blR v) := by subst h; exact Rel.le.refl _
theorem le_in {i j : Int} (h : i = j) : (intR i).le (intR j) := by subst h; exact Rel.le.refl _
theorem le_oeq {a b : Own} (h : a = b) : (ownR a).le (ownR b) := by subst h; exact Rel.le.refl _
theorem le_own0 : (intR 0).le (ownR (.leaf false)) := fun _ _ h => h
theorem le_own1 : (intR 1).le (ownR (.leaf true)) := fun _ _ h => h
theorem le_ownB {b : Bool} : (intR (bi b)).le (ownR (.leaf b)) := fun _ _ h => h
theorem le_ownT {Ra Rb : Rel} {l r : Own} (ha : Ra.le (ownR l)) (hb : Rb.le (ownR r)) : (tupR [Ra, Rb]).le (ownR (.node l r)) := fun v H h => by
  obtain ⟨a, vs, rfl, h, hs⟩ := h
  obtain ⟨vl, vr, rfl, h1, h2⟩ := hs.two
  exact ⟨a, vl, vr, rfl, h, ha _ _ h1, hb _ _ h2⟩
theorem own_tup {l r : Own} : (ownR (.node l r)).le (tupR [ownR l, ownR r]) := fun v H h => by
  obtain ⟨a, vl, vr, rfl, h, hl, hr⟩ := h
  exact ⟨a, [vl, vr], rfl, h, hl, hr, trivial⟩
theorem IxOk.le {X : Cx} {Ra Ra' Rb R : Rel} (h : IxOk X Ra Rb R) (l : Ra'.le Ra) : IxOk X Ra' Rb R := by
  obtain ⟨r, a, b⟩ := h
  exact ⟨r, a, fun x y H Q hx hy q => b x y H Q (l _ _ hx) hy q⟩
theorem Op2.le {X : Cx} {f : Value → Value → Sem Value} {Ra Ra' Rb Rb' R : Rel} (h : Op2 X f Ra Rb R) (l : Ra'.le Ra) (l' : Rb'.le Rb) : Op2 X f Ra' Rb' R := by
  obtain ⟨r, a, b⟩ := h
  exact ⟨r, a, fun x y H Q hx hy q => b x y H Q (l _ _ hx) (l' _ _ hy) q⟩
section
variable {X : Cx} {o a b l r : Own} {u : Bool}
theorem ix_ownL : IxOk X (ownR (.node l r)) (intR 0) (ownR l) := (ix_tupR (Rs := [ownR l, ownR r]) (n := 0) rfl rfl).le own_tup
theorem ix_ownR : IxOk X (ownR (.node l r)) (intR 1) (ownR r) := (ix_tupR (Rs := [ownR l, ownR r]) (n := 1) rfl rfl).le own_tup
theorem ty_own {K : PySem.W.Frag} (o : Own) : TyIs K (ownR o) (if o.isNode then "tuple" else "int") := by
  cases o with
  | leaf b => exact fun v H h => by cases h; exact .base (.int _)
  | node l r => exact fun v H h => by obtain ⟨a, vl, vr, rfl, h, _⟩ := h; exact .base (.tup h)
theorem isi_own_tup (hm : X.mg "isinstance" = none) : CallB X "isinstance" [ownR o, tyR "tuple"] (blR o.isNode) := by
  refine cb_isi hm (ty_own o) ?_
  cases o with
  | leaf b => exact (by decide +kernel : kitB "int" "tuple" = some false)
  | node l r => exact (by decide +kernel : kitB "tuple" "tuple" = some true)
theorem isi_own_bool (hm : X.mg "isinstance" = none) : CallB X "isinstance" [ownR o, tyR "bool"] (blR false) := by
  refine cb_isi hm (ty_own o) ?_
  cases o with
  | leaf b => exact (by decide +kernel : kitB "int" "bool" = some false)
  | node l r => exact (by decide +kernel : kitB "tuple" "bool" = some false)
theorem eq_own (hu : X.A.units + 64 < cLine) (ha : a.depth ≤ 64) (hb : b.depth ≤ 64) : Op2 X (compareOp .Eq) (ownR a) (ownR b) (blR (decide (a = b))) := o_eqD hu (own_dat a) (own_dat b) (Own.shaped ha) (Own.shaped hb) (Own.eqv a b)
theorem ne_own (hu : X.A.units + 64 < cLine) (ha : a.depth ≤ 64) (hb : b.depth ≤ 64) : Op2 X (compareOp .NotEq) (ownR a) (ownR b) (blR (!decide (a = b))) := o_neD hu (own_dat a) (own_dat b) (Own.shaped ha) (Own.shaped hb) (Own.eqv a b)
theorem eq_own0 (hu : X.A.units + 64 < cLine) (ha : a.depth ≤ 64) : Op2 X (compareOp .Eq) (ownR a) (intR 0) (blR (decide (a = .leaf false))) := (eq_own hu ha (Nat.zero_le _)).le (.refl _) le_own0
theorem eq_own1 (hu : X.A.units + 64 < cLine) (ha : a.depth ≤ 64) : Op2 X (compareOp .Eq) (ownR a) (intR 1) (blR (decide (a = .leaf true))) := (eq_own hu ha (Nat.zero_le _)).le (.refl _) le_own1
theorem ne_own0 (hu : X.A.units + 64 < cLine) (ha : a.depth ≤ 64) : Op2 X (compareOp .NotEq) (ownR a) (intR 0) (blR (!decide (a = .leaf false))) := (ne_own hu ha (Nat.zero_le _)).le (.refl _) le_own0
theorem ne_own1 (hu : X.A.units + 64 < cLine) (ha : a.depth ≤ 64) : Op2 X (compareOp .NotEq) (ownR a) (intR 1) (blR (!decide (a = .leaf true))) := (ne_own hu ha (Nat.zero_le _)).le (.refl _) le_own1
end

/-! ### things of any kind -/
inductive Th where
  | int (i : Int)
  | bl (b : Bool)
  | oth
  | pair (l r : Th)
  | tri (a l r : Th)
  | tupn (n : Nat)
namespace Th
def depth : Th → Nat
  | pair l r => max l.depth r.depth + 1
  | tri _ l r => max l.depth r.depth + 1
  | _ => 0
end Th
def ThP : Th → V → Hp → Prop
  | .int i, v, _ => v = .int i
  | .bl b, v, _ => v = .bl b
  | .oth, v, H => v = .non ∨ (∃ x, v = .str x) ∨ (∃ a xs, v = .ref a ∧ H a = some (.lst xs)) ∨ ∃ a kvs, v = .ref a ∧ H a = some (.dK kvs)
  | .pair l r, v, H => ∃ a vl vr, v = .ref a ∧ H a = some (.tup [vl, vr]) ∧ ThP l vl H ∧ ThP r vr H
  | .tri b l r, v, H => ∃ a vb vl vr, v = .ref a ∧ H a = some (.tup [vb, vl, vr]) ∧ ThP b vb H ∧ ThP l vl H ∧ ThP r vr H
  | .tupn n, v, H => ∃ a vs, v = .ref a ∧ H a = some (.tup vs) ∧ vs.length = n ∧ n ≠ 2 ∧ n ≠ 3
theorem ThP.up : ∀ {o : Th} {v : V} {H H' : Hp}, Same H H' → ThP o v H → ThP o v H'
  | .int _, _, _, _, _, h => h
  | .bl _, _, _, _, _, h => h
  | .oth, _, _, _, s, h => by
    rcases h with h | h | ⟨a, xs, e, h⟩ | ⟨a, kvs, e, h⟩
    · exact .inl h
    · exact .inr (.inl h)
    · exact .inr (.inr (.inl ⟨a, xs, e, s _ _ h⟩))
    · exact .inr (.inr (.inr ⟨a, kvs, e, s _ _ h⟩))
  | .pair _ _, _, _, _, s, ⟨a, vl, vr, e, h, hl, hr⟩ => ⟨a, vl, vr, e, s _ _ h, ThP.up s hl, ThP.up s hr⟩
  | .tri _ _ _, _, _, _, s, ⟨a, vb, vl, vr, e, h, hb, hl, hr⟩ => ⟨a, vb, vl, vr, e, s _ _ h, ThP.up s hb, ThP.up s hl, ThP.up s hr⟩
  | .tupn _, _, _, _, s, ⟨a, vs, e, h, z⟩ => ⟨a, vs, e, s _ _ h, z⟩
def thR (t : Th) : Rel := ⟨ThP t, fun s h => h.up s⟩
def Own.th : Own → Th
  | .leaf b => .int (bi b)
  | .node l r => .pair l.th r.th
theorem Own.th_P : ∀ (o : Own) (v : V) (H : Hp), ThP o.th v H ↔ OwnP o v H
  | .leaf _, _, _ => Iff.rfl
  | .node l r, v, H => by
    constructor
    · rintro ⟨a, vl, vr, e, h, hl, hr⟩
      exact ⟨a, vl, vr, e, h, (th_P l _ _).mp hl, (th_P r _ _).mp hr⟩
    · rintro ⟨a, vl, vr, e, h, hl, hr⟩
      exact ⟨a, vl, vr, e, h, (th_P l _ _).mpr hl, (th_P r _ _).mpr hr⟩
theorem Own.th_depth : ∀ o : Own, o.th.depth = o.depth
  | .leaf _ => rfl
  | .node l r => by simp [Own.th, Th.depth, Own.depth, th_depth l, th_depth r]
theorem th_own {o : Own} : (thR o.th).le (ownR o) := fun v H h => (Own.th_P o v H).mp h
theorem own_th {o : Own} : (ownR o).le (thR o.th) := fun v H h => (Own.th_P o v H).mpr h
theorem le_thI {i : Int} : (intR i).le (thR (.int i)) := fun _ _ h => h
theorem le_thB {b : Bool} : (blR b).le (thR (.bl b)) := fun _ _ h => h
theorem le_thN : nonR.le (thR .oth) := fun _ _ h => .inl h
theorem le_thS {x : Str} : (strR x).le (thR .oth) := fun _ _ h => .inr (.inl ⟨x, h⟩)
theorem le_thL {Rs : List Rel} : (lstR Rs).le (thR .oth) := fun _ _ ⟨a, vs, e, h, _⟩ => .inr (.inr (.inl ⟨a, vs, e, h⟩))
theorem le_th2 {Ra Rb : Rel} {l r : Th} (ha : Ra.le (thR l)) (hb : Rb.le (thR r)) : (tupR [Ra, Rb]).le (thR (.pair l r)) := fun v H h => by
  obtain ⟨a, vs, rfl, h, hs⟩ := h
  obtain ⟨vl, vr, rfl, h1, h2⟩ := hs.two
  exact ⟨a, vl, vr, rfl, h, ha _ _ h1, hb _ _ h2⟩
theorem le_th3 {Ra Rb Rc : Rel} {b l r : Th} (hb : Ra.le (thR b)) (ha : Rb.le (thR l)) (hc : Rc.le (thR r)) : (tupR [Ra, Rb, Rc]).le (thR (.tri b l r)) := fun v H h => by
  obtain ⟨a, vs, rfl, h, hs⟩ := h
  obtain ⟨vb, vl, vr, rfl, h1, h2, h3⟩ := hs.three
  exact ⟨a, vb, vl, vr, rfl, h, hb _ _ h1, ha _ _ h2, hc _ _ h3⟩
theorem le_thn {Rs : List Rel} (h2 : Rs.length ≠ 2) (h3 : Rs.length ≠ 3) : (tupR Rs).le (thR (.tupn Rs.length)) := fun v H h => by
  obtain ⟨a, vs, rfl, h, hs⟩ := h
  exact ⟨a, vs, rfl, h, hs.length, h2, h3⟩
namespace Th
def isTup : Th → Bool
  | pair _ _ => true
  | tri _ _ _ => true
  | tupn _ => true
  | _ => false
def isInt : Th → Bool
  | int _ => true
  | bl _ => true
  | _ => false
def isBl : Th → Bool
  | bl _ => true
  | _ => false
def size : Th → Nat
  | pair _ _ => 2
  | tri _ _ _ => 3
  | tupn n => n
  | _ => 0
end Th
section
variable {X : Cx} {t l r b : Th} {i : Int}
/-- whatever type it has -/
theorem cb_isiV {R : Rel} {T : String} {u : Bool} (hm : X.mg "isinstance" = none) (ht : ∀ v H, R.p v H → ∃ t, TyX X.K H v (.type t) ∧ kitB t T = some u) : CallB X "isinstance" [R, tyR T] (blR u) :=
  ⟨hm, _, _, call_isi, by decide +kernel, .inl ⟨_, rfl⟩, fun vs H Q h q => by
    obtain ⟨v, w, rfl, h1, h2⟩ := h.two
    cases h2
    obtain ⟨t, h3, h4⟩ := ht _ _ h1
    exact ⟨v, .ty T, .type t, .type T, u, rfl, .ty T, h3, kit_ty h4, q _ _ (Same.refl H) rfl⟩⟩
theorem kb_int_tuple : kitB "int" "tuple" = some false := by decide +kernel
theorem kb_int_int : kitB "int" "int" = some true := by decide +kernel
theorem kb_int_bool : kitB "int" "bool" = some false := by decide +kernel
theorem kb_bool_tuple : kitB "bool" "tuple" = some false := by decide +kernel
theorem kb_bool_int : kitB "bool" "int" = some true := by decide +kernel
theorem kb_bool_bool : kitB "bool" "bool" = some true := by decide +kernel
theorem kb_NoneType_tuple : kitB "NoneType" "tuple" = some false := by decide +kernel
theorem kb_NoneType_int : kitB "NoneType" "int" = some false := by decide +kernel
theorem kb_NoneType_bool : kitB "NoneType" "bool" = some false := by decide +kernel
theorem kb_str_tuple : kitB "str" "tuple" = some false := by decide +kernel
theorem kb_str_int : kitB "str" "int" = some false := by decide +kernel
theorem kb_str_bool : kitB "str" "bool" = some false := by decide +kernel
theorem kb_list_tuple : kitB "list" "tuple" = some false := by decide +kernel
theorem kb_list_int : kitB "list" "int" = some false := by decide +kernel
theorem kb_list_bool : kitB "list" "bool" = some false := by decide +kernel
theorem kb_dict_tuple : kitB "dict" "tuple" = some false := by decide +kernel
theorem kb_dict_int : kitB "dict" "int" = some false := by decide +kernel
theorem kb_dict_bool : kitB "dict" "bool" = some false := by decide +kernel
theorem kb_tuple_tuple : kitB "tuple" "tuple" = some true := by decide +kernel
theorem kb_tuple_int : kitB "tuple" "int" = some false := by decide +kernel
theorem kb_tuple_bool : kitB "tuple" "bool" = some false := by decide +kernel
theorem th_ty (K : PySem.W.Frag) : ∀ (t : Th) (v : V) (H : Hp), ThP t v H → ∃ n : String, TyX K H v (.type n) ∧ kitB n "tuple" = some t.isTup ∧ kitB n "int" = some t.isInt ∧ kitB n "bool" = some t.isBl
  | .int _, v, H, h => ⟨"int", ty_int v H h, kb_int_tuple, kb_int_int, kb_int_bool⟩
  | .bl _, v, H, h => ⟨"bool", ty_bl v H h, kb_bool_tuple, kb_bool_int, kb_bool_bool⟩
  | .oth, v, H, h => by
    rcases h with rfl | ⟨x, rfl⟩ | ⟨a, xs, rfl, h⟩ | ⟨a, kvs, rfl, h⟩
    · exact ⟨"NoneType", .base .non, kb_NoneType_tuple, kb_NoneType_int, kb_NoneType_bool⟩
    · exact ⟨"str", .base (.str _), kb_str_tuple, kb_str_int, kb_str_bool⟩
    · exact ⟨"list", .base (.lst h), kb_list_tuple, kb_list_int, kb_list_bool⟩
    · exact ⟨"dict", .base (.dK h), kb_dict_tuple, kb_dict_int, kb_dict_bool⟩
  | .pair l r, v, H, h => by
    obtain ⟨a, vl, vr, rfl, h, _⟩ := h
    exact ⟨"tuple", .base (.tup h), kb_tuple_tuple, kb_tuple_int, kb_tuple_bool⟩
  | .tri b l r, v, H, h => by
    obtain ⟨a, vb, vl, vr, rfl, h, _⟩ := h
    exact ⟨"tuple", .base (.tup h), kb_tuple_tuple, kb_tuple_int, kb_tuple_bool⟩
  | .tupn n, v, H, h => by
    obtain ⟨a, vs, rfl, h, _⟩ := h
    exact ⟨"tuple", .base (.tup h), kb_tuple_tuple, kb_tuple_int, kb_tuple_bool⟩
theorem isi_th_tup (hm : X.mg "isinstance" = none) : CallB X "isinstance" [thR t, tyR "tuple"] (blR t.isTup) := cb_isiV hm fun v H h => by
  obtain ⟨n, a, b, c, d⟩ := th_ty X.K t v H h
  exact ⟨n, a, b⟩
theorem isi_th_int (hm : X.mg "isinstance" = none) : CallB X "isinstance" [thR t, tyR "int"] (blR t.isInt) := cb_isiV hm fun v H h => by
  obtain ⟨n, a, b, c, d⟩ := th_ty X.K t v H h
  exact ⟨n, a, c⟩
theorem isi_th_bl (hm : X.mg "isinstance" = none) : CallB X "isinstance" [thR t, tyR "bool"] (blR t.isBl) := cb_isiV hm fun v H h => by
  obtain ⟨n, a, b, c, d⟩ := th_ty X.K t v H h
  exact ⟨n, a, d⟩
theorem isi_bl_bl {u : Bool} (hm : X.mg "isinstance" = none) : CallB X "isinstance" [blR u, tyR "bool"] (blR true) := cb_isi hm ty_bl (by decide +kernel)
/-- len -/
theorem len_th (hm : X.mg "len" = none) (h : t.isTup = true) : CallB X "len" [thR t] (intR t.size) :=
  ⟨hm, _, _, call_len_seq, PySem.boot_len, .inl ⟨_, rfl⟩, fun vs H Q hv q => by
    obtain ⟨v, rfl, h1⟩ := hv.one
    cases t with
    | int i => cases h
    | bl i => cases h
    | oth => cases h
    | pair l r =>
      obtain ⟨a, vl, vr, rfl, h, _⟩ := h1
      exact ⟨a, _, rfl, .inr (SqT.of h), q _ _ (Same.refl H) rfl⟩
    | tri b l r =>
      obtain ⟨a, vb, vl, vr, rfl, h, _⟩ := h1
      exact ⟨a, _, rfl, .inr (SqT.of h), q _ _ (Same.refl H) rfl⟩
    | tupn n =>
      obtain ⟨a, vs, rfl, h, e, _⟩ := h1
      exact ⟨a, _, rfl, .inr (SqT.of h), q _ _ (Same.refl H) (by rw [e]; rfl)⟩⟩
theorem pair_tup : (thR (.pair l r)).le (tupR [thR l, thR r]) := fun v H h => by
  obtain ⟨a, vl, vr, rfl, h, hl, hr⟩ := h
  exact ⟨a, [vl, vr], rfl, h, hl, hr, trivial⟩
theorem tri_tup : (thR (.tri b l r)).le (tupR [thR b, thR l, thR r]) := fun v H h => by
  obtain ⟨a, vb, vl, vr, rfl, h, hb, hl, hr⟩ := h
  exact ⟨a, [vb, vl, vr], rfl, h, hb, hl, hr, trivial⟩
theorem ix_pairL : IxOk X (thR (.pair l r)) (intR 0) (thR l) := (ix_tupR (Rs := [thR l, thR r]) (n := 0) rfl rfl).le pair_tup
theorem ix_pairR : IxOk X (thR (.pair l r)) (intR 1) (thR r) := (ix_tupR (Rs := [thR l, thR r]) (n := 1) rfl rfl).le pair_tup
theorem ix_triA : IxOk X (thR (.tri b l r)) (intR 0) (thR b) := (ix_tupR (Rs := [thR b, thR l, thR r]) (n := 0) rfl rfl).le tri_tup
theorem ix_triL : IxOk X (thR (.tri b l r)) (intR 1) (thR l) := (ix_tupR (Rs := [thR b, thR l, thR r]) (n := 1) rfl rfl).le tri_tup
theorem ix_triR : IxOk X (thR (.tri b l r)) (intR 2) (thR r) := (ix_tupR (Rs := [thR b, thR l, thR r]) (n := 2) rfl rfl).le tri_tup
theorem o_leT {j : Int} : Op2 X (compareOp .LtE) (intR j) (thR (.int i)) (blR (decide (j ≤ i))) := o_le.le (.refl _) fun _ _ h => h
theorem o_Tle {j : Int} : Op2 X (compareOp .LtE) (thR (.int i)) (intR j) (blR (decide (i ≤ j))) := o_le.le (fun _ _ h => h) (.refl _)
theorem o_Tge {j : Int} : Op2 X (compareOp .GtE) (thR (.int i)) (intR j) (blR (decide (j ≤ i))) := o_ge.le (fun _ _ h => h) (.refl _)
/-- an int among the things -/
theorem th_int : (thR (.int i)).le (intR i) := fun _ _ h => h
end
end Fk

namespace Fk
open PySem L2
/-! ### lists that are read, lists of ints -/
def sqR (K : PySem.W.Frag) (Rs : List Rel) : Rel := ⟨fun v H => ∃ a vs, v = .ref a ∧ SqL K H a vs ∧ Args Rs vs H, fun s ⟨a, vs, e, h, r⟩ => ⟨a, vs, e, s.seq h, r.up s⟩⟩
theorem lst_sq {K : PySem.W.Frag} {Rs : List Rel} : (lstR Rs).le (sqR K Rs) := fun _ _ ⟨a, vs, e, h, r⟩ => ⟨a, vs, e, SqL.of h, r⟩
abbrev intsR (ns : List Int) : Rel := lstR (ns.map intR)
theorem args_ints : ∀ {ns : List Int} {vs : List V} {H : Hp}, Args (ns.map intR) vs H → vs = ns.map V.int
  | [], [], _, _ => rfl
  | n :: ns, v :: vs, H, h => by
    have h1 : v = V.int n := h.1
    rw [h1, args_ints (ns := ns) (vs := vs) h.2]
    rfl
  | [], _ :: _, _, h => h.elim
  | _ :: _, [], _, h => h.elim
theorem ints_args : ∀ {ns : List Int} {H : Hp}, Args (ns.map intR) (ns.map V.int) H
  | [], _ => trivial
  | n :: ns, H => ⟨rfl, ints_args (ns := ns)⟩
theorem Args.append : ∀ {Rs Ss : List Rel} {vs ws : List V} {H : Hp}, Args Rs vs H → Args Ss ws H → Args (Rs ++ Ss) (vs ++ ws) H
  | [], _, [], _, _, _, b => b
  | _ :: _, _, _ :: _, _, _, a, b => ⟨a.1, Args.append a.2 b⟩
  | [], _, _ :: _, _, _, a, _ => a.elim
  | _ :: _, _, [], _, _, a, _ => a.elim
theorem Args.take : ∀ {Rs : List Rel} {vs : List V} {H : Hp} (n : Nat), Args Rs vs H → Args (Rs.take n) (vs.take n) H
  | [], [], _, _, _ => by simp [Args]
  | _ :: _, _ :: _, _, 0, _ => trivial
  | _ :: _, _ :: _, _, n + 1, a => ⟨a.1, Args.take n a.2⟩
  | [], _ :: _, _, _, a => a.elim
  | _ :: _, [], _, _, a => a.elim
theorem Args.drop : ∀ {Rs : List Rel} {vs : List V} {H : Hp} (n : Nat), Args Rs vs H → Args (Rs.drop n) (vs.drop n) H
  | [], [], _, _, _ => by simp [Args]
  | _ :: _, _ :: _, _, 0, a => a
  | _ :: _, _ :: _, _, n + 1, a => Args.drop n a.2
  | [], _ :: _, _, _, a => a.elim
  | _ :: _, [], _, _, a => a.elim
open PySem.AutoSeq1 in
open PySem.MeetsSeq PySem.MeetsSeq2 PySem.MeetsSeq3 in
theorem list_add_any (l : Addr) (items : Array Value) (n : Nat) (b : Addr) (items2 : Array Value) (n2 : Nat) (sl sl2 : Array (Option Value)) (hc0 : items.size + items2.size ≤ sizeLine) :
    Meets (Builtin.«list.__add__» ⟨[.ref l, .ref b], []⟩) (fun _ R s => s.heap.get? l = some { cls := .type "list", dict := none, data := .seq items n, slots := sl } ∧ s.heap.get? b = some { cls := .type "list", dict := none, data := .seq items2 n2, slots := sl2 } ∧
      R (.ok (.ret (Value.ref s.heap.objs.size))) { s with heap := s.heap.push { cls := Value.type "list", data := .seq (items ++ items2) } }) :=
  .of_wp fun prog w A R s h => by
    obtain ⟨hp, g, d, tk, os⟩ := s; obtain ⟨hl, hb, h⟩ := h; have f1 := idx_int; have f2 := sub_tuple_tuple; have f3 := sub_list_list; have f4 := sub_tuple_list; have f5 := sub_list_tuple
    wp_walk using wpAny_loadPart' hl, wpAny_loadPart' hb
    exact ⟨_, rfl, h⟩
/-- lists glued: any two that are read -/
def rCatS (K : PySem.W.Frag) : R2 := fun x y H Q => ∃ l b xs zs, x = .ref l ∧ y = .ref b ∧ SqL K H l xs ∧ SqL K H b zs ∧ xs.length + zs.length ≤ sizeLine ∧ ∀ p, H p = none → Q (.ref p) (upd H p (.lst (xs ++ zs)))
section
variable {X : Cx} {Rs Ss : List Rel} {R : Rel} {i j : Int}
theorem op_catS : OpR X (binaryOp .Add) (rCatS X.K) := by
  intro pins s σ H x y v u Q I rx ry h
  obtain ⟨l, b, xs, zs, rfl, rfl, hH, hB, hz, q⟩ := h
  cases rx
  cases ry
  obtain ⟨its, r, ⟨⟨cls, dd, data, sl⟩, n, ho, hc, hdn, hd⟩, z1⟩ := I.list hH
  obtain ⟨its2, r2, ⟨⟨cls2, dd2, data2, sl2⟩, n2, ho2, hc2, hdn2, hd2⟩, z2⟩ := I.list hB
  simp only at hc hdn hd hc2 hdn2 hd2
  subst hc hdn hd hc2 hdn2 hd2
  have l1 := r.length
  have l2 := r2.length
  refine PySem.concat_meets ⟨_, ho, rfl⟩ ⟨_, ho2, rfl⟩ PySem.noFill_list_add PySem.seq_list_add PySem.F.slot_list_add PySem.F.entry_list_add (PySem.F.args_list_add_2 _ _) (list_add_any l its.toArray n b its2.toArray n2 sl sl2 (by rw [List.size_toArray, List.size_toArray]; omega)) ⟨ho, ho2, ?_⟩
  have ea : its.toArray ++ its2.toArray = (its ++ its2).toArray := by simp
  rw [ea]
  exact ⟨.ref _, _, I.lnew (t' := s.toks) (r.append r2) (by rw [List.length_append]; omega), rfl, q _ I.fresh⟩
theorem o_cat (h : Rs.length + Ss.length ≤ sizeLine) : Op2 X (binaryOp .Add) (sqR X.K Rs) (sqR X.K Ss) (lstR (Rs ++ Ss)) :=
  ⟨_, op_catS, fun x y H Q hx hy q => by
    obtain ⟨a, vs, rfl, ha, r1⟩ := hx
    obtain ⟨b, ws, rfl, hb, r2⟩ := hy
    refine ⟨a, b, vs, ws, rfl, rfl, ha, hb, by rw [r1.length, r2.length]; exact h, fun p hp => q _ _ (same_new hp) ⟨p, _, rfl, upd_same, (r1.append r2).up (same_new hp)⟩⟩⟩
theorem o_catL (h : Rs.length + Ss.length ≤ sizeLine) : Op2 X (binaryOp .Add) (lstR Rs) (lstR Ss) (lstR (Rs ++ Ss)) := (o_cat h).le lst_sq lst_sq
theorem o_catSL (h : Rs.length + Ss.length ≤ sizeLine) : Op2 X (binaryOp .Add) (sqR X.K Rs) (lstR Ss) (lstR (Rs ++ Ss)) := (o_cat h).le (.refl _) lst_sq
theorem o_cat5 {ns : List Int} {k : Int} (h : ns.length ≤ 63) : Op2 X (binaryOp .Add) (sqR X.K (ns.map intR)) (lstR [intR k]) (sqR X.K ((ns ++ [k]).map intR)) := by
  have q := o_catSL (X := X) (Rs := ns.map intR) (Ss := [intR k]) (by rw [List.length_map]; exact small (by simp; omega))
  rw [List.map_append]
  obtain ⟨r, a, b⟩ := q
  exact ⟨r, a, fun x y H Q hx hy q => b x y H Q hx hy fun v H' s r => q v H' s (lst_sq _ _ r)⟩
theorem len_sq (hm : X.mg "len" = none) : CallB X "len" [sqR X.K Rs] (intR Rs.length) :=
  ⟨hm, _, _, call_len_seq, PySem.boot_len, .inl ⟨_, rfl⟩, fun vs H Q hv q => by
    obtain ⟨v, rfl, a, ws, rfl, ha, r⟩ := hv.one
    exact ⟨a, ws, rfl, .inl ha, q _ _ (Same.refl H) (by rw [r.length]; rfl)⟩⟩
theorem len_tupR (hm : X.mg "len" = none) : CallB X "len" [tupR Rs] (intR Rs.length) :=
  ⟨hm, _, _, call_len_seq, PySem.boot_len, .inl ⟨_, rfl⟩, fun vs H Q hv q => by
    obtain ⟨v, rfl, a, ws, rfl, ha, r⟩ := hv.one
    exact ⟨a, ws, rfl, .inr (SqT.of ha), q _ _ (Same.refl H) (by rw [r.length]; rfl)⟩⟩
theorem CallB.le {x : Str} {Rs Rs' : List Rel} {R : Rel} (h : CallB X x Rs R) (l : ArgsLe Rs' Rs) : CallB X x Rs' R := by
  obtain ⟨hm, f, r, a, b, c, d⟩ := h
  exact ⟨hm, f, r, a, b, c, fun vs H Q hv q => d vs H Q (l.args hv) q⟩
theorem len_lst (hm : X.mg "len" = none) : CallB X "len" [lstR Rs] (intR Rs.length) := (len_sq hm).le (.cons lst_sq .nil)
theorem len_ints {ns : List Int} (hm : X.mg "len" = none) : CallB X "len" [intsR ns] (intR ns.length) := by
  have h := len_lst (X := X) (Rs := ns.map intR) hm
  rw [List.length_map] at h
  exact h
theorem ix_sq {n : Nat} (hi : i = (n : Int)) (h : Rs[n]? = some R) : IxOk X (sqR X.K Rs) (intR i) R :=
  ⟨_, ix_list, fun x y H Q hx hy q => by
    obtain ⟨a, vs, rfl, ha, hs⟩ := hx
    obtain ⟨v, e, r⟩ := hs.get h
    exact ⟨a, vs, i, v, rfl, hy, ha, by rw [hi]; exact atI_nat e, q _ _ (Same.refl H) r⟩⟩
theorem ix_ints {ns : List Int} {n : Nat} {k : Int} (hi : i = (n : Int)) (h : ns[n]? = some k) : IxOk X (intsR ns) (intR i) (intR k) := ix_lstR hi (by rw [List.getElem?_map, h]; rfl)
/-- max, min of a list of ints -/
def lmax : List Int → Int
  | [] => 0
  | [n] => n
  | n :: ns => max n (lmax ns)
def lmin : List Int → Int
  | [] => 0
  | [n] => n
  | n :: ns => min n (lmin ns)
theorem lmax_mem : ∀ {ns : List Int}, ns ≠ [] → lmax ns ∈ ns
  | [], h => absurd rfl h
  | [n], _ => by simp [lmax]
  | n :: m :: ns, _ => by
    have ih := lmax_mem (ns := m :: ns) (by simp)
    show max n (lmax (m :: ns)) ∈ _
    rcases Int.le_total n (lmax (m :: ns)) with h | h
    · rw [Int.max_eq_right h]; exact List.mem_cons_of_mem _ ih
    · rw [Int.max_eq_left h]; exact List.mem_cons_self
theorem lmax_ge : ∀ {ns : List Int} {y : Int}, y ∈ ns → y ≤ lmax ns
  | [], _, h => by simp at h
  | [n], y, h => by simp at h; subst h; exact Int.le_refl _
  | n :: m :: ns, y, h => by
    have ih := lmax_ge (ns := m :: ns) (y := y)
    show y ≤ max n (lmax (m :: ns))
    rcases List.mem_cons.mp h with rfl | h
    · exact Int.le_max_left _ _
    · exact Int.le_trans (ih h) (Int.le_max_right _ _)
theorem lmin_mem : ∀ {ns : List Int}, ns ≠ [] → lmin ns ∈ ns
  | [], h => absurd rfl h
  | [n], _ => by simp [lmin]
  | n :: m :: ns, _ => by
    have ih := lmin_mem (ns := m :: ns) (by simp)
    show min n (lmin (m :: ns)) ∈ _
    rcases Int.le_total n (lmin (m :: ns)) with h | h
    · rw [Int.min_eq_left h]; exact List.mem_cons_self
    · rw [Int.min_eq_right h]; exact List.mem_cons_of_mem _ ih
theorem lmin_le : ∀ {ns : List Int} {y : Int}, y ∈ ns → lmin ns ≤ y
  | [], _, h => by simp at h
  | [n], y, h => by simp at h; subst h; exact Int.le_refl _
  | n :: m :: ns, y, h => by
    have ih := lmin_le (ns := m :: ns) (y := y)
    show min n (lmin (m :: ns)) ≤ y
    rcases List.mem_cons.mp h with rfl | h
    · exact Int.min_le_left _ _
    · exact Int.le_trans (Int.min_le_right _ _) (ih h)
theorem cb_max {ns : List Int} (hm : X.mg "max" = none) (hc : X.calm = true) (h : ns ≠ []) : CallB X "max" [intsR ns] (intR (lmax ns)) :=
  ⟨hm, _, _, cr_max hc, by decide +kernel, .inl ⟨_, rfl⟩, fun vs H Q hv q => by
    obtain ⟨v, rfl, a, ws, rfl, ha, r⟩ := hv.one
    rw [args_ints r] at ha
    refine ⟨a, ns, rfl, SqL.of ha, List.length_pos_iff.mpr h, fun m h1 h2 => q _ _ (Same.refl H) ?_⟩
    show V.int m = V.int (lmax ns)
    exact congrArg V.int (Int.le_antisymm (lmax_ge h1) (h2 _ (lmax_mem h)))⟩
theorem cb_min {ns : List Int} (hm : X.mg "min" = none) (hc : X.calm = true) (h : ns ≠ []) : CallB X "min" [intsR ns] (intR (lmin ns)) :=
  ⟨hm, _, _, cr_min hc, by decide +kernel, .inl ⟨_, rfl⟩, fun vs H Q hv q => by
    obtain ⟨v, rfl, a, ws, rfl, ha, r⟩ := hv.one
    rw [args_ints r] at ha
    refine ⟨a, ns, rfl, SqL.of ha, List.length_pos_iff.mpr h, fun m h1 h2 => q _ _ (Same.refl H) ?_⟩
    show V.int m = V.int (lmin ns)
    exact congrArg V.int (Int.le_antisymm (h2 _ (lmin_mem h)) (lmin_le h1))⟩
theorem cb_max2 (hm : X.mg "max" = none) (hc : X.calm = true) : CallB X "max" [intR i, intR j] (intR (max i j)) :=
  ⟨hm, _, _, call_max2 hc, by decide +kernel, .inl ⟨_, rfl⟩, fun vs H Q hv q => by
    obtain ⟨v, w, rfl, h1, h2⟩ := hv.two
    refine ⟨i, j, by rw [show v = V.int i from h1, show w = V.int j from h2], q _ _ (Same.refl H) ?_⟩
    show V.int _ = V.int _
    split <;> exact congrArg V.int (by omega)⟩
theorem cb_min2 (hm : X.mg "min" = none) (hc : X.calm = true) : CallB X "min" [intR i, intR j] (intR (min i j)) :=
  ⟨hm, _, _, call_min2 hc, by decide +kernel, .inl ⟨_, rfl⟩, fun vs H Q hv q => by
    obtain ⟨v, w, rfl, h1, h2⟩ := hv.two
    refine ⟨i, j, by rw [show v = V.int i from h1, show w = V.int j from h2], q _ _ (Same.refl H) ?_⟩
    show V.int _ = V.int _
    split <;> exact congrArg V.int (by omega)⟩
/-! ### slices -/
variable {H0 : Hp} {G : Ctx} {a b c e : Expr} {es : List Expr} {pos p2 : Pos}
theorem cut_sound {σ : St} {H : Hp} {Q : VK} {tl th : TO} {lo hi : Option Int} (hl : ∀ H1 (Q' : Option Int → Hp → Prop), Same H H1 → (∀ H2, Same H1 H2 → Q' lo H2) → tl σ H1 Q') (hh : ∀ H1 (Q' : Option Int → Hp → Prop), Same H H1 → (∀ H2, Same H1 H2 → Q' hi H2) → th σ H1 Q')
    (hR : ∀ vs : List V, vs.length = Rs.length → ∀ H', Args Rs vs H' → Args Ss (cutV vs lo hi) H') (q : tEv X H0 G (lstR Ss) σ H Q) : tSl (rSlL X.K) (tEv X H0 G (sqR X.K Rs)) tl th σ H Q := by
  obtain ⟨g, S, q⟩ := q
  refine ⟨g, S, fun v H1 s1 r1 => hl H1 _ s1 fun H2 s2 => hh H2 _ (s1.trans s2) fun H3 s3 => ?_⟩
  obtain ⟨a, vs, rfl, ha, r⟩ := r1
  refine ⟨a, vs, rfl, (s2.trans s3).seq ha, fun p hp => q _ _ (s1.trans (s2.trans (s3.trans (same_new hp)))) ⟨p, _, rfl, upd_same, ?_⟩⟩
  exact hR vs r.length _ (r.up (s2.trans (s3.trans (same_new hp))))
theorem no_sound {σ : St} {H1 : Hp} {Q' : Option Int → Hp → Prop} (q : ∀ H2, Same H1 H2 → Q' none H2) : tNoPart σ H1 Q' := q _ (Same.refl _)
theorem part_sound {σ : St} {H H1 : Hp} {Q' : Option Int → Hp → Prop} (g : Same H0 H) (S : Slots X G σ H) (s : Same H H1) (q : ∀ H2, Same H1 H2 → Q' (some i) H2) : tPart (tEv X H0 G (intR i)) σ H1 Q' :=
  ⟨g.trans s, S.up s, fun v H2 s2 r => ⟨i, r, q H2 s2⟩⟩
theorem sIx_nat' {n d : Nat} (h : 0 ≤ i) : HT.sIx n d (some i) = min i.toNat n := by
  have e : i = ((i.toNat : Nat) : Int) := by omega
  rw [e, HT.sIx_nat]
  rfl
theorem ev_cutTo (ha : Ev X H0 G a (sqR X.K Rs)) (hb : Ev X H0 G b (intR j)) (h : 0 ≤ j) : Ev X H0 G (.Subscript a (.Slice none (some b) none p2) pos) (lstR (Rs.take j.toNat)) := by
  refine PE_imp (pe_slice sl_list ha po_none (po_some hb)) fun σ H Q q => ?_
  refine cut_sound (lo := none) (hi := some j) (fun H1 Q' s q' => no_sound q') (fun H1 Q' s q' => part_sound q.1 q.2.1 s q') (fun vs hv H' r => ?_) q
  unfold cutV
  rw [HT.sIx_none, sIx_nat' h, List.drop_zero, Nat.sub_zero, hv]
  have e : vs.take (min j.toNat Rs.length) = vs.take j.toNat := by
    rw [← hv]
    by_cases hj : j.toNat ≤ vs.length
    · rw [Nat.min_eq_left hj]
    · rw [Nat.min_eq_right (by omega), List.take_length, List.take_of_length_le (by omega)]
  rw [e]
  exact r.take _
theorem ev_cutFrom (ha : Ev X H0 G a (sqR X.K Rs)) (hb : Ev X H0 G b (intR j)) (h : 0 ≤ j) : Ev X H0 G (.Subscript a (.Slice (some b) none none p2) pos) (lstR (Rs.drop j.toNat)) := by
  refine PE_imp (pe_slice sl_list ha (po_some hb) po_none) fun σ H Q q => ?_
  refine cut_sound (lo := some j) (hi := none) (fun H1 Q' s q' => part_sound q.1 q.2.1 s q') (fun H1 Q' s q' => no_sound q') (fun vs hv H' r => ?_) q
  unfold cutV
  rw [HT.sIx_none, sIx_nat' h]
  have e : (vs.drop (min j.toNat vs.length)).take (vs.length - min j.toNat vs.length) = vs.drop j.toNat := by
    rw [List.take_of_length_le (by rw [List.length_drop]; exact Nat.le_refl _)]
    by_cases hj : j.toNat ≤ vs.length
    · rw [Nat.min_eq_left hj]
    · rw [Nat.min_eq_right (by omega), List.drop_length, List.drop_eq_nil_of_le (by omega)]
  rw [e]
  exact r.drop _
theorem ev_cutToI {ns : List Int} (ha : Ev X H0 G a (intsR ns)) (hb : Ev X H0 G b (intR j)) (h : 0 ≤ j) : Ev X H0 G (.Subscript a (.Slice none (some b) none p2) pos) (intsR (ns.take j.toNat)) := by
  have q := ev_cutTo (p2 := p2) (pos := pos) (ha.le lst_sq) hb h
  rw [← List.map_take] at q
  exact q
theorem ev_cutFromI {ns : List Int} (ha : Ev X H0 G a (intsR ns)) (hb : Ev X H0 G b (intR j)) (h : 0 ≤ j) : Ev X H0 G (.Subscript a (.Slice (some b) none none p2) pos) (intsR (ns.drop j.toNat)) := by
  have q := ev_cutFrom (p2 := p2) (pos := pos) (ha.le lst_sq) hb h
  rw [← List.map_drop] at q
  exact q
theorem ev_count {ns : List Int} {k : Int} {apos : Pos} (ha : Ev X H0 G a (intsR ns)) (hb : Ev X H0 G b (intR k)) (hbase : attributeBase a "count" X.env (eval a X.env) = eval a X.env)
    (hfew : ((backTo pos (starEach (b :: []) X.env)).all (fun x => !x.1) && (backToKw pos (keywordEach [] X.env)).all (fun x => x.1.isSome)
      && decide ((b :: []).length + ([] : List Keyword).length + (if ([] : List Keyword).isEmpty then 0 else 1) < 30)) = true)
    (hline : (apos.endLine == pos.line) = true) (hs : starEach (b :: []) X.env = (false, eval b X.env) :: starEach [] X.env) (hplain : (backTo pos (starEach [] X.env)).any (·.1) = false) :
    Ev X H0 G (.Call (.Attribute a "count" apos) [b] [] pos) (intR (ns.count k : Nat)) := by
  refine PE_imp (pe_bm PySem.F.plainAttrs_list PySem.F.slot_list_count PySem.F.type_list_count mt_lcount ha (av_cons hb av_nil hs) hbase hfew hline hs hplain) fun σ H Q q => ?_
  obtain ⟨g, S, q⟩ := q
  refine ⟨g, S, fun v H1 s1 r1 => ?_⟩
  obtain ⟨p, vs, rfl, hp, r⟩ := r1
  rw [args_ints r] at hp
  refine ⟨Or.inl ⟨rfl, _, Or.inl (Or.inl hp)⟩, g.trans s1, S.up s1, fun ws H2 s2 r2 => ?_⟩
  obtain ⟨w, rfl, rw'⟩ := r2.one
  exact ⟨p, ns, k, rfl, by rw [show w = V.int k from rw'], SqL.of (s2 _ _ hp), q _ _ (s1.trans s2) rfl⟩
theorem le_lstR {Rs Ss : List Rel} (h : ArgsLe Rs Ss) : (lstR Rs).le (lstR Ss) := fun v H ⟨a, vs, e, ha, r⟩ => ⟨a, vs, e, ha, h.args r⟩
theorem le_ints {ns ms : List Int} (h : ns = ms) : (intsR ns).le (intsR ms) := by subst h; exact Rel.le.refl _
theorem o_catI {ns ms : List Int} (h : ns.length + ms.length ≤ sizeLine) : Op2 X (binaryOp .Add) (intsR ns) (intsR ms) (intsR (ns ++ ms)) := by
  have q := o_catL (X := X) (Rs := ns.map intR) (Ss := ms.map intR) (by rw [List.length_map, List.length_map]; exact h)
  rw [← List.map_append] at q
  exact q
theorem ix_ints0 {n : Int} {ns : List Int} : IxOk X (intsR (n :: ns)) (intR 0) (intR n) := ix_ints (n := 0) rfl rfl
/-- x in (0, 1) -/
def rInT (K : PySem.W.Frag) : R2 := fun x y H Q => ∃ d ds, Dp K H x d ∧ Dp K H y (.tuple ds) ∧ SeqAt.shaped d = true ∧ SeqAt.shaped (.tuple ds) = true ∧ Q (.bl (ds.any fun z => PyData.eqv z d)) H
theorem room_tup {A : Around} {d : PyData} {ds : List PyData} (sd : SeqAt.shaped d = true) (hu : A.units + 65 < cLine) : A.units + 1 + min (PyData.depthAll ds) d.depth < cLine := by
  have h : d.depth ≤ 64 := by
    unfold SeqAt.shaped at sd
    simp only [Bool.and_eq_true, decide_eq_true_eq] at sd
    exact sd.2
  omega
theorem shaped_tup {ds : List PyData} (s : SeqAt.shaped (.tuple ds) = true) : PyData.canLayAll0 ds = true := by
  unfold SeqAt.shaped at s
  simp only [Bool.and_eq_true, PyData.canLay0] at s
  exact s.1
theorem op_inT (hu : X.A.units + 65 < cLine) : OpR X (compareOp .In) (rInT X.K) := by
  intro pins s σ H x y v u Q I rx ry h
  obtain ⟨d, ds, hd, he, sd, se, q⟩ := h
  obtain ⟨as, r1⟩ := Dp.reads I d x v hd rx
  obtain ⟨bs, r2⟩ := Dp.reads I (.tuple ds) y u he ry
  exact SeqAt.in_tuple_reads r2 r1 (shaped_tup se) (SeqAt.canLay_of_shaped sd) (room_tup sd hu) ⟨.bl _, H, I, rfl, q⟩
theorem in_own01 {o : Own} (hu : X.A.units + 65 < cLine) (h : o.depth ≤ 64) : Op2 X (compareOp .In) (ownR o) (tupR [intR 0, intR 1]) (blR (!o.isNode)) :=
  ⟨_, op_inT hu, fun x y H Q hx hy q => by
    obtain ⟨a, vs, rfl, ha, r⟩ := hy
    obtain ⟨v, w, rfl, h1, h2⟩ := r.two
    cases h1
    cases h2
    refine ⟨o.dat, [.int 0, .int 1], own_dat o _ _ hx, .tup (SqT.of ha) (.cons (.int 0) (.cons (.int 1) .nil)), Own.shaped h, by decide +kernel, q _ _ (Same.refl H) ?_⟩
    show V.bl _ = V.bl _
    refine congrArg V.bl ?_
    have e0 : PyData.eqv (.int 0) o.dat = decide (Own.leaf false = o) := Own.eqv (.leaf false) o
    have e1 : PyData.eqv (.int 1) o.dat = decide (Own.leaf true = o) := Own.eqv (.leaf true) o
    rw [List.any_cons, List.any_cons, List.any_nil, e0, e1]
    cases o with
    | leaf b => cases b <;> rfl
    | node l r => rfl⟩
/-- a list item at a place that is told by its remainder -/
theorem ix_getD (hi : 0 ≤ i) (h : i.toNat < Rs.length) : IxOk X (lstR Rs) (intR i) (Rs.getD i.toNat anyR) :=
  ix_lstR (n := i.toNat) (by omega) (by rw [List.getD_eq_getElem?_getD, List.getElem?_eq_getElem h]; rfl)
def dctR : Rel := ⟨fun v H => ∃ a, v = .ref a ∧ H a = some (.dK []), fun s ⟨a, e, h⟩ => ⟨a, e, s _ _ h⟩⟩
theorem ev_dict0 : Ev X H0 G (.Dict [] [] pos) dctR := PE_imp pe_dnewK fun σ H Q q => fun d hd => q.2.2 _ _ (same_new hd) ⟨d, rfl, upd_same⟩
theorem le_thD : dctR.le (thR .oth) := fun _ _ ⟨a, e, h⟩ => .inr (.inr (.inr ⟨a, _, e, h⟩))
end
end Fk

namespace Fk
open PySem L2
/-! ### THE FRAME: what a pure expression does not see stays as it is -/
def era (H : Hp) (F : List Addr) : Hp := fun b => if b ∈ F then none else H b
def res (H' H : Hp) (F : List Addr) : Hp := fun b => if b ∈ F then H b else H' b
theorem era_in {H : Hp} {F : List Addr} {b : Addr} (h : b ∈ F) : era H F b = none := by unfold era; rw [if_pos h]
theorem era_out {H : Hp} {F : List Addr} {b : Addr} (h : b ∉ F) : era H F b = H b := by unfold era; rw [if_neg h]
theorem res_in {H' H : Hp} {F : List Addr} {b : Addr} (h : b ∈ F) : res H' H F b = H b := by unfold res; rw [if_pos h]
theorem res_out {H' H : Hp} {F : List Addr} {b : Addr} (h : b ∉ F) : res H' H F b = H' b := by unfold res; rw [if_neg h]
theorem era_some {H : Hp} {F : List Addr} {b : Addr} {o : HO} (h : era H F b = some o) : b ∉ F ∧ H b = some o := by
  by_cases hb : b ∈ F
  · rw [era_in hb] at h; cases h
  · rw [era_out hb] at h; exact ⟨hb, h⟩
theorem era_none {H : Hp} {F : List Addr} {b : Addr} (h : H b = none) : era H F b = none := by
  by_cases hb : b ∈ F
  · exact era_in hb
  · rw [era_out hb]; exact h
theorem era_same {H : Hp} {F : List Addr} : Same (era H F) H := fun b o h => (era_some h).2
theorem res_same {H' H : Hp} {F : List Addr} (hn : ∀ a ∈ F, H' a = none) : Same H' (res H' H F) := fun b o h => by
  by_cases hb : b ∈ F
  · rw [hn b hb] at h; cases h
  · rw [res_out hb]; exact h
theorem res_old {H' H : Hp} {F : List Addr} (s : Same (era H F) H') : Same H (res H' H F) := fun b o h => by
  by_cases hb : b ∈ F
  · rw [res_in hb]; exact h
  · rw [res_out hb]; exact s b o (by rw [era_out hb]; exact h)
/-- what may be set aside: lists, dicts; instances with their dicts -/
inductive Asd (H : Hp) (F : List Addr) : Addr → Prop
  | lst {a : Addr} {xs : List V} (h : H a = some (.lst xs)) : Asd H F a
  | dK {a : Addr} {kvs : List (Key × V)} (h : H a = some (.dK kvs)) : Asd H F a
  | ins {a C dx : Addr} {fs : List (Str × V)} (h : H a = some (.ins C dx fs)) (hd : dx ∈ F) : Asd H F a
  | own {a x C : Addr} {fs : List (Str × V)} (h : H a = some (.own x)) (hx : H x = some (.ins C a fs)) (hf : x ∈ F) : Asd H F a
section
variable {X : Cx} {pins : List (Addr × Obj)} {σ : St} {H H' : Hp} {s s' : Shared} {F : List Addr}
theorem inv_fsFree (I : Inv X pins σ H s) : ∀ b ∈ X.fs, H b = none := fun b hb => by
  obtain ⟨_, o, ho, _⟩ := I.ok.funs.mem hb
  exact I.base.free b o ho (I.ok.frf b hb) fun z => I.ok.exfs b z hb
theorem Asd.there (I : Inv X pins σ H s) {a : Addr} (h : Asd H F a) : (∃ o, s.heap.get? a = some o ∧ ∀ v, o.data ≠ .cell v) ∧ ∃ o, H a = some o ∧ (∀ xs, o ≠ .tup xs) ∧ (∀ ob u, o ≠ .frz ob u) ∧ ∀ ps, o ≠ .tbl ps := by
  cases h with
  | lst h =>
    obtain ⟨_, its, n, _, e⟩ := I.hok _ _ h
    exact ⟨⟨_, e, (fun v z => by cases z)⟩, _, h, (fun _ z => by cases z), (fun _ _ z => by cases z), (fun _ z => by cases z)⟩
  | dK h =>
    obtain ⟨_, _, vs, _, o, es, ep, e, _, d, _⟩ := I.hok _ _ h
    exact ⟨⟨_, e, fun v z => by rw [d] at z; cases z⟩, _, h, (fun _ z => by cases z), (fun _ _ z => by cases z), (fun _ z => by cases z)⟩
  | ins h _ =>
    obtain ⟨_, _, _, e, _⟩ := I.hok _ _ h
    exact ⟨⟨_, e, (fun v z => by cases z)⟩, _, h, (fun _ z => by cases z), (fun _ _ z => by cases z), (fun _ z => by cases z)⟩
  | own h hx _ =>
    obtain ⟨_, _, _, _, mA, ⟨o, es, ep, e, d, _⟩, _⟩ := I.hok _ _ hx
    exact ⟨⟨_, e, fun v z => by rw [d] at z; cases z⟩, _, h, (fun _ z => by cases z), (fun _ _ z => by cases z), (fun _ z => by cases z)⟩
/-- set aside -/
theorem inv_aside (I : Inv X pins σ H s) (hF : ∀ a ∈ F, Asd H F a) : ∃ P : List (Addr × Obj), (∀ a ∈ F, ∃ o, s.heap.get? a = some o ∧ (a, o) ∈ P) ∧ (∀ p ∈ P, p.1 ∈ F) ∧ Inv X (pins ++ P) σ (era H F) s := by
  have own_out : ∀ a b, a ∉ F → H b = some (.own a) → b ∉ F := fun a b ha hb hbF => by
    have q := hF b hbF
    cases q with
    | lst h => rw [hb] at h; cases h
    | dK h => rw [hb] at h; cases h
    | ins h _ => rw [hb] at h; cases h
    | own h hx hf => rw [hb] at h; cases h; exact ha hf
  refine ⟨F.filterMap fun a => (s.heap.get? a).map fun o => (a, o), fun a ha => ?_, fun p hp => ?_, ?_⟩
  · obtain ⟨⟨o, e, _⟩, _⟩ := (hF a ha).there I
    exact ⟨o, e, List.mem_filterMap.mpr ⟨a, ha, by rw [e]; rfl⟩⟩
  · obtain ⟨a, ha, e⟩ := List.mem_filterMap.mp hp
    cases q : s.heap.get? a with
    | none => rw [q] at e; cases e
    | some o => rw [q] at e; cases e; exact ha
  refine ⟨I.ok, I.os, I.bare, ⟨I.base.keep, I.base.slot, fun b o e n hx => ?_, I.base.there, fun b xs e => ?_, fun b o u e => ?_, fun b ps e => ?_⟩, I.loc, I.cell, ?_, fun x c e => ?_, fun p hp => ?_, fun a o e => ?_, I.len⟩
  · by_cases hb : b ∈ F
    · exact era_in hb
    · rw [era_out hb]; exact I.base.free b o e n hx
  · have q := I.base.tups b xs e
    have hb : b ∉ F := fun hb => by
      obtain ⟨_, o, ho, h1, _⟩ := (hF b hb).there I
      rw [q] at ho; cases ho; exact h1 _ rfl
    rw [era_out hb]; exact q
  · have q := I.base.frzs b o u e
    have hb : b ∉ F := fun hb => by
      obtain ⟨_, o, ho, _, h1, _⟩ := (hF b hb).there I
      rw [q] at ho; cases ho; exact h1 _ _ rfl
    rw [era_out hb]; exact q
  · obtain ⟨more, q⟩ := I.base.tbls b ps e
    have hb : b ∉ F := fun hb => by
      obtain ⟨_, o, ho, _, _, h1⟩ := (hF b hb).there I
      rw [q] at ho; cases ho; exact h1 _ rfl
    exact ⟨more, by rw [era_out hb]; exact q⟩
  · by_cases hb : X.env.locals ∈ F
    · exact era_in hb
    · rw [era_out hb]; exact I.free
  · by_cases hb : c ∈ F
    · exact era_in hb
    · rw [era_out hb]; exact I.freeC x c e
  · rcases List.mem_append.mp hp with hp' | hp'
    · obtain ⟨e, n, ne, nf, d⟩ := I.pin p (List.mem_append_left _ hp')
      exact ⟨e, era_none n, ne, nf, d⟩
    rcases List.mem_append.mp hp' with hp' | hp'
    · obtain ⟨e, n, ne, nf, d⟩ := I.pin p (List.mem_append_right _ hp')
      exact ⟨e, era_none n, ne, nf, d⟩
    · obtain ⟨a, ha, e⟩ := List.mem_filterMap.mp hp'
      obtain ⟨⟨o, e2, d⟩, o', ho, _⟩ := (hF a ha).there I
      rw [e2] at e
      cases e
      refine ⟨e2, era_in ha, fun z => ?_, fun z => ?_, d⟩
      · have q := I.free
        rw [← show a = X.env.locals from z, ho] at q; cases q
      · have q := inv_fsFree I a z
        rw [ho] at q; cases q
  · obtain ⟨ha, e⟩ := era_some e
    refine (I.hok a o e).stay (fun b u _ q => q) (fun b q => ?_) (fun b xs q => ?_)
    · rw [era_out (own_out a b ha q)]; exact q
    · have hb : b ∉ F := fun hb => by
        obtain ⟨_, o, ho, h1, _⟩ := (hF b hb).there I
        rw [q] at ho; cases ho; exact h1 _ rfl
      rw [era_out hb]; exact q
/-- and back -/
theorem inv_back {P : List (Addr × Obj)} (I : Inv X pins σ H s) (hF : ∀ a ∈ F, Asd H F a) (hP : ∀ a ∈ F, ∃ o, s.heap.get? a = some o ∧ (a, o) ∈ P) {σ' : St} (J : Inv X (pins ++ P) σ' H' s') (hn : ∀ a ∈ F, H' a = none) : Inv X pins σ' (res H' H F) s' := by
  have same : ∀ a ∈ F, ∀ o, s.heap.get? a = some o → s'.heap.get? a = some o := fun a ha o e => by
    obtain ⟨o', e', hp⟩ := hP a ha
    rw [e] at e'; cases e'
    exact (J.pin (a, o) (List.mem_append_right _ (List.mem_append_right _ hp))).1
  have sm := res_same (H := H) hn
  have notF : ∀ {b : Addr} {o : HO}, H' b = some o → b ∉ F := fun {b o} e hb => by rw [hn b hb] at e; cases e
  have freeF : ∀ {b : Addr}, H b = none → b ∉ F := fun {b} e hb => by
    obtain ⟨_, o, ho, _⟩ := (hF b hb).there I
    rw [e] at ho; cases ho
  refine ⟨J.ok, J.os, J.bare, ⟨J.base.keep, J.base.slot, fun b o e n hx => ?_, J.base.there, fun b xs e => sm _ _ (J.base.tups b xs e), fun b o u e => sm _ _ (J.base.frzs b o u e), fun b ps e => ?_⟩, J.loc, J.cell, ?_, fun x c e => ?_, fun p hp => ?_, fun a o e => ?_, J.len⟩
  · rw [res_out (freeF (I.base.free b o e n hx))]; exact J.base.free b o e n hx
  · obtain ⟨more, q⟩ := J.base.tbls b ps e
    exact ⟨more, sm _ _ q⟩
  · rw [res_out (freeF I.free)]; exact J.free
  · rw [res_out (freeF (I.freeC x c e))]; exact J.freeC x c e
  · have hp2 : p ∈ X.pn ++ (pins ++ P) := by rw [← List.append_assoc]; exact List.mem_append_left _ hp
    obtain ⟨e, n, ne, nf, d⟩ := J.pin p hp2
    exact ⟨e, by rw [res_out (freeF (I.pin p hp).2.1)]; exact n, ne, nf, d⟩
  · by_cases ha : a ∈ F
    · rw [res_in ha] at e
      have q := hF a ha
      have ok := I.hok a o e
      cases q with
      | lst h =>
        rw [e] at h; cases h
        obtain ⟨z, its, n, r, g⟩ := ok
        exact ⟨z, its, n, r, same a ha _ g⟩
      | dK h =>
        rw [e] at h; cases h
        obtain ⟨z, y, vs, r, ob, es, ep, g, c⟩ := ok
        exact ⟨z, y, vs, r, ob, es, ep, same a ha _ g, c⟩
      | ins h hd =>
        rw [e] at h; cases h
        obtain ⟨d, z, ne, g, mA, ⟨od, es, ep, e2, c⟩, r⟩ := ok
        exact ⟨by rw [res_in hd]; exact d, z, ne, same a ha _ g, mA, ⟨od, es, ep, same _ hd _ e2, c⟩, r⟩
      | own h hx hf =>
        rw [e] at h; cases h
        obtain ⟨ob, g⟩ := ok
        exact ⟨ob, same a ha _ g⟩
    · rw [res_out ha] at e
      exact (J.hok a o e).stay (fun b u _ q => q) (fun b q => sm _ _ q) (fun b xs q => sm _ _ q)
end
section
variable {X : Cx} {H0 : Hp} {G G1 : Ctx} {G' : Option Ctx} {R : Rel} {e : Expr} {u : Bool} {st : Stmt}
/-- a pure expression, some things set aside -/
def fEv (X : Cx) (H0 : Hp) (G : Ctx) (R : Rel) : TE := fun σ H Q => ∃ F, (∀ a ∈ F, Asd H F a) ∧ Same H0 (era H F) ∧ Slots X G σ (era H F) ∧ ∀ v H', Same (era H F) H' → (∀ a ∈ F, H' a = none) → R.p v H' → Q v (res H' H F)
def fTv (X : Cx) (H0 : Hp) (G : Ctx) (b : Bool) : TT := fun σ H Q => ∃ F, (∀ a ∈ F, Asd H F a) ∧ Same H0 (era H F) ∧ Slots X G σ (era H F) ∧ ∀ H', Same (era H F) H' → (∀ a ∈ F, H' a = none) → Q b (res H' H F)
theorem Ev.frame (h : Ev X H0 G e R) : PE X e (fEv X H0 G R) := by
  refine ⟨fun pins s σ H Q I q => ?_⟩
  obtain ⟨F, hF, g, S, q⟩ := q
  obtain ⟨P, hP, hPF, J⟩ := inv_aside I hF
  refine thn (h.run (pins ++ P) s σ (era H F) (fun v H' => Same (era H F) H' ∧ R.p v H') J ⟨g, S, fun v H' s r => ⟨s, r⟩⟩) fun u s' hh => ?_
  obtain ⟨v, H', J', rv, s', r⟩ := hh
  have hn : ∀ a ∈ F, H' a = none := fun a ha => by
    obtain ⟨o, _, hp⟩ := hP a ha
    exact (J'.pin _ (List.mem_append_right _ (List.mem_append_right _ hp))).2.1
  exact ⟨v, _, inv_back I hF hP J' hn, rv, q v H' s' hn r⟩
theorem Tv.frame (h : Tv X H0 G e u) : PT X e (fTv X H0 G u) := by
  refine ⟨fun pins s σ H Q I q => ?_⟩
  obtain ⟨F, hF, g, S, q⟩ := q
  obtain ⟨P, hP, hPF, J⟩ := inv_aside I hF
  refine thn (h.run (pins ++ P) s σ (era H F) (fun v H' => Same (era H F) H' ∧ v = u) J ⟨g, S, fun H' s => ⟨s, rfl⟩⟩) fun v s' hh => ?_
  obtain ⟨H', J', s', r⟩ := hh
  subst r
  have hn : ∀ a ∈ F, H' a = none := fun a ha => by
    obtain ⟨o, _, hp⟩ := hP a ha
    exact (J'.pin _ (List.mem_append_right _ (List.mem_append_right _ hp))).2.1
  exact ⟨_, inv_back I hF hP J' hn, q H' s' hn⟩
end
end Fk

namespace Fk
open PySem L2
/-! ### targets -/
structure Sto (X : Cx) (x : Str) : Prop where
  loc : Loc X.env.scope x
  fn : X.fn x = true ∨ X.env.scope.names.lookup x = some .local
theorem Body.sto {X : Cx} (B : Body X) {x : Str} (h : x ∈ X.N) (hx : X.env.scope.names.lookup x ≠ none) : Sto X x := ⟨B.locOf h hx, .inl (B.fn x)⟩
def tGv (X : Cx) (H0 : Hp) (G : Ctx) (R : Rel) (G' : Ctx) (ix : List Nat) : TG := fun v σ H Q => Same H0 H ∧ Slots X G σ H ∧ R.p v H ∧ ∀ σ' H', Same H H' → Slots X G' σ' H' → (∀ vs : List Nat, (∀ i ∈ ix, i ∈ vs) → wipe σ' vs = wipe σ vs) → Q σ' H'
def Gv (X : Cx) (H0 : Hp) (G : Ctx) (tg : Expr) (R : Rel) (G' : Ctx) (ix : List Nat) : Prop := PG X tg (tGv X H0 G R G' ix)
theorem wipe_comm {σ : St} {i j : Nat} {o : Option V} : ∀ vs : List Nat, (wipe (σ.set i o) vs)[j]? = if j ∈ vs then (σ.set i o)[j]?.map fun _ => none else (σ.set i o)[j]? := by
  intro vs
  induction vs with
  | nil => simp [wipe]
  | cons v vs ih =>
    show ((wipe (σ.set i o) vs).set v none)[j]? = _
    rw [List.getElem?_set]
    by_cases h : v = j
    · subst h
      rw [if_pos rfl, wipe_length]
      rw [if_pos (List.mem_cons_self)]
      by_cases hl : v < (σ.set i o).length
      · rw [if_pos hl, List.getElem?_eq_getElem hl]; rfl
      · rw [if_neg hl, List.getElem?_eq_none (by omega)]; rfl
    · rw [if_neg h, ih]
      by_cases hm : j ∈ vs
      · rw [if_pos hm, if_pos (List.mem_cons_of_mem _ hm)]
      · rw [if_neg hm, if_neg (by simp [hm]; exact fun z => h z.symm)]
theorem wipe_get {σ : St} {j : Nat} : ∀ vs : List Nat, (wipe σ vs)[j]? = if j ∈ vs then σ[j]?.map fun _ => none else σ[j]? := by
  intro vs
  induction vs with
  | nil => simp [wipe]
  | cons v vs ih =>
    show ((wipe σ vs).set v none)[j]? = _
    rw [List.getElem?_set]
    by_cases h : v = j
    · subst h
      rw [if_pos rfl, wipe_length]
      rw [if_pos (List.mem_cons_self)]
      by_cases hl : v < σ.length
      · rw [if_pos hl, List.getElem?_eq_getElem hl]; rfl
      · rw [if_neg hl, List.getElem?_eq_none (by omega)]; rfl
    · rw [if_neg h, ih]
      by_cases hm : j ∈ vs
      · rw [if_pos hm, if_pos (List.mem_cons_of_mem _ hm)]
      · rw [if_neg hm, if_neg (by simp [hm]; exact fun z => h z.symm)]
theorem wipe_set {σ : St} {i : Nat} {o : Option V} {vs : List Nat} (h : i ∈ vs) : wipe (σ.set i o) vs = wipe σ vs := by
  apply List.ext_getElem?
  intro j
  rw [wipe_get, wipe_get]
  by_cases hj : j ∈ vs
  · rw [if_pos hj, if_pos hj]
    by_cases hi : i = j
    · subst hi
      rw [List.getElem?_set]
      by_cases hl : i < σ.length
      · rw [if_pos rfl, if_pos hl, List.getElem?_eq_getElem hl]; rfl
      · rw [if_pos rfl, if_neg hl, List.getElem?_eq_none (by omega)]
    · rw [List.getElem?_set_ne hi]
  · rw [if_neg hj, if_neg hj, List.getElem?_set_ne (by rintro rfl; exact hj h)]
section
variable {X : Cx} {H0 : Hp} {G G1 G2 G3 : Ctx} {G' : Option Ctx} {R Ra Rb Rc Rr : Rel} {tg e e1 e2 e3 iter a b : Expr} {x : Str} {pos p pos' : Pos} {i j k : Nat} {ix jx kx : List Nat} {u : Bool}
theorem gv_name (hs : Sto X x) (hd : X.N.Nodup) (c : SetCtx x (some R) G G1 i) : Gv X H0 G (.Name x pos) R G1 [i] := by
  by_cases hN : X.N = G.map (·.1)
  · have hi : X.N[i]? = some x := by rw [hN]; exact c.name
    have vis : Vis X.env.scope x := by
      rcases hs.loc with k | k
      · exact .inl k
      · exact .inr (.inl k)
    refine ⟨fun pins s σ H v u Q I r q => ?_⟩
    obtain ⟨g, S, hr, q⟩ := q
    exact (pg_name (i := i) hd hi hs.loc hs.fn).run pins s σ H v u Q I r (q _ _ (Same.refl H) (Slots.set vis c S hr) fun vs h => wipe_set (h i List.mem_cons_self))
  · exact ⟨fun pins s σ H v u Q I r q => absurd q.2.1.1 hN⟩
theorem gv_tup2 {n : Nat} (hc : X.calm = true) (h1 : Gv X H0 G e1 Ra G1 ix) (h2 : Gv X H0 G1 e2 Rb G2 jx) (hs1 : (assignEach (e1 :: e2 :: []) X.env).map (·.2) = assign e1 X.env :: (assignEach (e2 :: []) X.env).map (·.2))
    (hs2 : (assignEach (e2 :: []) X.env).map (·.2) = assign e2 X.env :: (assignEach [] X.env).map (·.2)) (hn : (assignEach [e1, e2] X.env).length = 2) (hst : (assignEach [e1, e2] X.env).findIdx? (·.1) = none) :
    Gv X H0 G (.Tuple [e1, e2] n pos) (tupR [Ra, Rb]) G2 (ix ++ jx) := by
  have hp := pg_tup (X := X) (k := n) (pos := pos) hc (pgs_cons h1 (pgs_cons h2 pgs_nil hs2) hs1) hn hst
  refine ⟨fun pins s σ H v u Q I r q => hp.run pins s σ H v u Q I r ?_⟩
  obtain ⟨g, S, ⟨a, vs, rfl, ha, hr⟩, q⟩ := q
  obtain ⟨v1, v2, rfl, r1, r2⟩ := hr.two
  refine ⟨a, _, rfl, SqT.of ha, rfl, v1, _, rfl, g, S, r1, fun σ1 H1 s1 S1 w1 => ⟨v2, _, rfl, g.trans s1, S1, Rb.up s1 r2, fun σ2 H2 s2 S2 w2 => ⟨rfl, q _ _ (s1.trans s2) S2 fun vs h => ?_⟩⟩⟩
  rw [w2 vs fun i hi => h i (List.mem_append_right _ hi), w1 vs fun i hi => h i (List.mem_append_left _ hi)]
/-- a, b = e, a tuple of two -/
theorem bv_tup2 {sts : List Stmt} {n : Nat} (he : Ev X H0 G e R) (l : R.le (tupR [Ra, Rb])) (hg : Gv X H0 G (.Tuple [e1, e2] n pos') (tupR [Ra, Rb]) G2 ix) (h2 : Bv X H0 G2 sts G' Rr) (hs : swapsWithSole [.Tuple [e1, e2] n pos'] e pos.line X.env = pure false) (hw : swappedStores [.Tuple [e1, e2] n pos'] e X.env = pure none)
    (h1 : (assignEach [.Tuple [e1, e2] n pos'] X.env).map (·.2) = [assign (.Tuple [e1, e2] n pos') X.env]) : Bv X H0 G (.Assign [.Tuple [e1, e2] n pos'] e pos :: sts) G' Rr := by
  refine bv_cons (G1 := G2) (PS_imp (ps_asg he hg hs hw h1) fun D σ H q => ?_) h2
  obtain ⟨g, S, qn, q⟩ := q
  exact ⟨g, S, fun v H1 s1 r1 => ⟨g.trans s1, S.up s1, l _ _ r1, fun σ' H' s2 S2 _ => qn _ _ _ rfl (s1.trans s2) S2⟩⟩
/-- a, b = x, y, both plain locals -/
theorem bv_par {sts : List Stmt} {y : Str} {px py pt : Pos} {kt k2 : Nat} {pt2 : Pos} (B : Body X) (ha : Av X H0 G [a, b] [Ra, Rb]) (hx : X.env.scope.names.lookup x = some .local) (hy : X.env.scope.names.lookup y = some .local) (c1 : SetCtx x (some Ra) G G1 i) (c2 : SetCtx y (some Rb) G1 G2 j) (hij : i ≠ j) (h2 : Bv X H0 G2 sts G' Rr)
    (hw : swappedStores [.Tuple [.Name x px, .Name y py] kt pt] (.Tuple [a, b] k2 pt2) X.env = pure (some [x, y]))
    (hs : swapsWithSole [.Tuple [.Name x px, .Name y py] kt pt] (.Tuple [a, b] k2 pt2) pos.line X.env = pure false) :
    Bv X H0 G (.Assign [.Tuple [.Name x px, .Name y py] kt pt] (.Tuple [a, b] k2 pt2) pos :: sts) G' Rr := by
  refine bv_cons (G1 := G2) ?_ h2
  by_cases hN : X.N = G.map (·.1)
  · have hi : X.N[i]? = some x := by rw [hN]; exact c1.name
    have hj : X.N[j]? = some y := by rw [hN, ← c1.names]; exact c2.name
    refine PS_imp (ps_par B.calm B.nd hi hj hij hx hy ha hw hs) fun D σ H q => ?_
    obtain ⟨g, S, qn, q⟩ := q
    refine ⟨g, S, fun vs H1 s1 r1 => ?_⟩
    obtain ⟨v, w, rfl, r1, r2⟩ := r1.two
    exact ⟨v, w, rfl, qn _ _ _ rfl s1 (Slots.set (.inl hy) c2 (Slots.set (.inl hx) c1 (S.up s1) r1) r2)⟩
  · exact PS_imp ps_never fun D σ H q => hN q.2.1.1

/-! ### what is walked -/
variable {α β : Type}
def ItW (J : It) (xs : List α) (R : α → Rel) (H1 : Hp) : Prop := ∃ (Gd : Hp → Prop) (Y : Nat → Hp → V → Hp → Prop), Gd H1 ∧ (∀ H', Same H1 H' → Gd H') ∧ Walk J xs.length Gd Y ∧
  (∀ i H x H', i < xs.length → Same H1 H → Y i H x H' → Same H H' ∧ ∃ a, xs[i]? = some a ∧ (R a).p x H') ∧
  ∀ i H x H2 D o, H D = none → Y i (upd H D o) x H2 → ∃ H', H2 = upd H' D o ∧ H' D = none ∧ Y i H x H'
theorem fr_at {vs : List V} : ∀ i H x H2 D o, H D = none → YAt vs i (upd H D o) x H2 → ∃ H', H2 = upd H' D o ∧ H' D = none ∧ YAt vs i H x H' := fun i H x H2 D o hD y => ⟨H, y.1, hD, rfl, y.2⟩
theorem fr_fn {f : Nat → V} : ∀ i H x H2 D o, H D = none → YFn f i (upd H D o) x H2 → ∃ H', H2 = upd H' D o ∧ H' D = none ∧ YFn f i H x H' := fun i H x H2 D o hD y => ⟨H, y.1, hD, rfl, y.2⟩
theorem upd_swap {H : Hp} {a b : Addr} {o u : HO} (h : a ≠ b) : upd (upd H a o) b u = upd (upd H b u) a o := by
  funext c
  unfold upd
  by_cases h1 : c = a
  · subst h1; rw [if_neg h, if_pos rfl, if_pos rfl]
  · rw [if_neg h1, if_neg h1]
theorem fr_pair {f g : Nat → Option V} : ∀ i H x H2 D o, H D = none → YPair f g i (upd H D o) x H2 → ∃ H', H2 = upd H' D o ∧ H' D = none ∧ YPair f g i H x H' := fun i H x H2 D o hD y => by
  obtain ⟨T, a, b, e, hT, rfl, e1, e2⟩ := y
  have ne : D ≠ T := by
    rintro rfl
    rw [upd_same] at hT
    cases hT
  rw [upd_ne ne.symm] at hT
  exact ⟨_, upd_swap ne, by rw [upd_ne ne]; exact hD, T, a, b, e, hT, rfl, e1, e2⟩
def Pv (X : Cx) (H0 : Hp) (G : Ctx) (tg iter : Expr) (xs : List α) (R : α → Rel) : Prop := ∃ wi, PI X tg iter wi ∧ ∀ σ H (Rk : It → Hp → Prop), Same H0 H → Slots X G σ H → (∀ J H1, Same H H1 → ItW J xs R H1 → Rk J H1) → wi σ H Rk
theorem args_at {xs : List α} {R : α → Rel} {vs : List V} {H : Hp} {i : Nat} {x : V} (h : Args (xs.map R) vs H) (e : vs[i]? = some x) : ∃ a, xs[i]? = some a ∧ (R a).p x H := by
  have hl := h.length
  rw [List.length_map] at hl
  have hi : i < xs.length := by
    have := (List.getElem?_eq_some_iff.mp e).1
    omega
  obtain ⟨v, e2, r⟩ := h.get (i := i) (R := R xs[i]) (by rw [List.getElem?_map, List.getElem?_eq_getElem hi]; rfl)
  rw [e] at e2
  cases e2
  exact ⟨xs[i], List.getElem?_eq_getElem hi, r⟩
theorem pv_list {xs : List α} {R : α → Rel} (he : Ev X H0 G iter (sqR X.K (xs.map R))) : Pv X H0 G tg iter xs R := by
  refine ⟨_, pi_list he, fun σ H Rk g S q => ⟨g, S, fun v H1 s1 r1 => ?_⟩⟩
  obtain ⟨a, vs, rfl, ha, r⟩ := r1
  have hl := r.length
  rw [List.length_map] at hl
  refine ⟨a, rfl, ⟨vs, ha⟩, q _ _ s1 ⟨fun H => SqL X.K H a vs, YAt vs, ha, fun H' s => s.seq ha, by rw [← hl]; exact walk_list, fun i H x H' hi s y => ?_, fr_at⟩⟩
  obtain ⟨rfl, e⟩ := y
  exact ⟨Same.refl _, args_at (r.up s) e⟩
theorem pv_lst {xs : List α} {R : α → Rel} (he : Ev X H0 G iter (lstR (xs.map R))) : Pv X H0 G tg iter xs R := pv_list (he.le lst_sq)
theorem pv_tup {xs : List α} {R : α → Rel} (he : Ev X H0 G iter (tupR (xs.map R))) : Pv X H0 G tg iter xs R := by
  refine ⟨_, pi_tup he, fun σ H Rk g S q => ⟨g, S, fun v H1 s1 r1 => ?_⟩⟩
  obtain ⟨a, vs, rfl, ha, r⟩ := r1
  have hl := r.length
  rw [List.length_map] at hl
  refine ⟨a, rfl, ⟨vs, SqT.of ha⟩, q _ _ s1 ⟨fun H => SqT X.K H a vs, YAt vs, SqT.of ha, fun H' s => SqT.of (s _ _ ha), by rw [← hl]; exact walk_tup, fun i H x H' hi s y => ?_, fr_at⟩⟩
  obtain ⟨rfl, e⟩ := y
  exact ⟨Same.refl _, args_at (r.up s) e⟩
theorem pv_range {n : Int} (he : Ev X H0 G e (intR n)) (h0 : 0 ≤ n) (h1 : n < 2 ^ 62) (hm : X.mg "range" = none) (hg : Gl X "range") (hs : starEach [e] X.env = [(false, eval e X.env)]) (hs2 : starEach (e :: []) X.env = (false, eval e X.env) :: starEach [] X.env) :
    Pv X H0 G tg (.Call (.Name "range" p) [e] [] pos) (List.range n.toNat) (fun i => intR (i : Nat)) := by
  refine ⟨_, pi_range1 hg hm (av_cons he av_nil hs2) hs, fun σ H Rk g S q => ⟨g, S, fun vs H1 s1 r1 => ?_⟩⟩
  obtain ⟨v, rfl, r⟩ := r1.one
  refine ⟨n, by rw [show v = V.int n from r], by omega, h1, q _ _ s1 ⟨fun _ => True, YFn fun i => .int (0 + i), trivial, fun _ _ => trivial, by rw [List.length_range]; exact walk_range, fun i H x H' hi s y => ?_, fr_fn⟩⟩
  obtain ⟨rfl, rfl⟩ := y
  rw [List.length_range] at hi
  exact ⟨Same.refl _, i, by rw [List.getElem?_eq_getElem (by simpa using hi)]; simp, by show V.int _ = V.int _; rw [Int.zero_add]⟩
theorem pv_enum {xs : List α} {R : α → Rel} {elts : List Expr} {kk : Nat} {tpos : Pos} (he : Ev X H0 G e (sqR X.K (xs.map R))) (hm : X.mg "enumerate" = none) (hg : Gl X "enumerate") (hs : starEach [e] X.env = [(false, eval e X.env)]) (hs2 : starEach (e :: []) X.env = (false, eval e X.env) :: starEach [] X.env) :
    Pv X H0 G (.Tuple elts kk tpos) (.Call (.Name "enumerate" p) [e] [] pos) xs.zipIdx (fun q => tupR [intR (q.2 : Nat), R q.1]) := by
  refine ⟨_, pi_enum hg hm (av_cons he av_nil hs2) hs, fun σ H Rk g S q => ⟨g, S, fun vs H1 s1 r1 => ?_⟩⟩
  obtain ⟨v, rfl, a, ws, rfl, ha, r⟩ := r1.one
  have hl := r.length
  rw [List.length_map] at hl
  refine ⟨a, ws, rfl, ha, q _ _ s1 ⟨fun H => SqL X.K H a ws, _, ha, fun H' s => s.seq ha, by rw [List.length_zipIdx, ← hl]; exact walk_enum, fun i H x H' hi s y => ?_, fr_pair⟩⟩
  obtain ⟨T, x1, y1, rfl, hT, rfl, e1, e2⟩ := y
  cases e1
  obtain ⟨b, eb, rb⟩ := args_at (r.up (s.trans (same_new (o := .tup [V.int (i : Nat), y1]) hT))) e2
  exact ⟨same_new hT, (b, i), by rw [List.getElem?_zipIdx, eb]; simp, T, _, rfl, upd_same, rfl, rb, trivial⟩
theorem pv_zip {xs : List α} {ys : List β} {R : α → Rel} {S : β → Rel} {elts : List Expr} {kk : Nat} {tpos : Pos} (ha : Ev X H0 G a (sqR X.K (xs.map R))) (hb : Ev X H0 G b (sqR X.K (ys.map S))) (hm : X.mg "zip" = none) (hg : Gl X "zip")
    (hs : starEach (a :: [b]) X.env = (false, eval a X.env) :: starEach [b] X.env) (hs2 : starEach (b :: []) X.env = (false, eval b X.env) :: starEach [] X.env) (hpl : (backTo pos (starEach [b] X.env)).any (·.1) = false) :
    Pv X H0 G (.Tuple elts kk tpos) (.Call (.Name "zip" p) [a, b] [] pos) (xs.zip ys) (fun q => tupR [R q.1, S q.2]) := by
  refine ⟨_, pi_zip hg hm (av_cons ha (av_cons hb av_nil hs2) hs) hs hpl, fun σ H Rk g Sl q => ⟨g, Sl, fun vs H1 s1 r1 => ?_⟩⟩
  obtain ⟨v, w, rfl, ⟨a1, ws, rfl, ha1, r⟩, ⟨b1, us, rfl, hb1, r2⟩⟩ := r1.two
  have hl := r.length
  have hl2 := r2.length
  rw [List.length_map] at hl hl2
  refine ⟨a1, b1, ws, us, rfl, ha1, hb1, q _ _ s1 ⟨fun H => SqL X.K H a1 ws ∧ SqL X.K H b1 us, _, ⟨ha1, hb1⟩, fun H' s => ⟨s.seq ha1, s.seq hb1⟩, walk_zip (by rw [List.length_zip, hl, hl2]), fun i H x H' hi s y => ?_, fr_pair⟩⟩
  obtain ⟨T, x1, y1, rfl, hT, rfl, e1, e2⟩ := y
  have sn := s.trans (same_new (o := .tup [x1, y1]) hT)
  obtain ⟨c, ec, rc⟩ := args_at (r.up sn) e1
  obtain ⟨d, ed, rd⟩ := args_at (r2.up sn) e2
  exact ⟨same_new hT, (c, d), (List.getElem?_zip_eq_some (z := (c, d))).mpr ⟨ec, ed⟩, T, _, rfl, upd_same, rc, rd, trivial⟩

/-! ### for -/
theorem bv_for {xs : List α} {R : α → Rel} {C : Nat → Ctx} {body sts : List Stmt} (B : Body X) (hi : Pv X H0 G tg iter xs R) (l0 : CtxLe G (C 0))
    (hb : ∀ i a, xs[i]? = some a → ∃ G1 G2 ix, Gv X H0 (C i) tg (R a) G1 ix ∧ Bv X H0 G1 body (some G2) Rr ∧ CtxLe G2 (C (i + 1))) (hr : Bv X H0 (C xs.length) sts G' Rr) (hs : ∀ x, foldedSetIterable iter X.env x = pure x) :
    Bv X H0 G (.For tg iter body [] pos :: sts) G' Rr := by
  obtain ⟨wi, hpi, hw⟩ := hi
  refine bv_cons (G1 := C xs.length) ?_ hr
  have hg : PG X tg (fun v σ H Q => ∃ G R G1 ix, Gv X H0 G tg R G1 ix ∧ tGv X H0 G R G1 ix v σ H Q) := ⟨fun pins s σ H v u Q I r q => by
    obtain ⟨G, R, G1, ix, hg, q⟩ := q
    exact hg.run pins s σ H v u Q I r q⟩
  have hbd : PSs X body (fun D σ H => ∃ G G2, Bv X H0 G body (some G2) Rr ∧ tSv X H0 G (some G2) Rr D σ H) := ⟨fun pins s σ H D I q => by
    obtain ⟨G, G2, hb, q⟩ := q
    exact hb.run pins s σ H D I q⟩
  refine PS_imp (ps_for B.own B.calm hpi hg hbd hs) fun D σ H q => ?_
  obtain ⟨g, S, qn, q⟩ := q
  refine hw σ H _ g S fun J H1 s1 W => ?_
  obtain ⟨Gd, Y, hG, hGs, wk, hy, _⟩ := W
  refine for_it (g := fun v σ H Q => ∃ G R G1 ix, Gv X H0 G tg R G1 ix ∧ tGv X H0 G R G1 ix v σ H Q) (tb := fun D σ H => ∃ G G2, Bv X H0 G body (some G2) Rr ∧ tSv X H0 G (some G2) Rr D σ H) wk (fun i σ' H' => Same H1 H' ∧ Slots X (C i) σ' H') ⟨Same.refl _, (S.up s1).le l0⟩ (fun i σ' H' _ q' => hGs _ q'.1) (fun i x σ' H' H2 hi q' y => ?_) fun σ' H' q' => qn _ _ _ rfl (s1.trans q'.1) q'.2
  obtain ⟨s2, a, ea, ra⟩ := hy i H' x H2 hi q'.1 y
  obtain ⟨G1, G2, ix, h1, h2, h3⟩ := hb i a ea
  have sa := s1.trans (q'.1.trans s2)
  refine ⟨C i, R a, G1, ix, h1, g.trans sa, q'.2.up s2, ra, fun σ3 H3 s3 S3 _ => ⟨G1, G2, h2, g.trans (sa.trans s3), S3, fun C' σ4 H4 e s4 S4 => ?_, fun v H4 s4 r4 => q v H4 (sa.trans (s3.trans s4)) r4⟩⟩
  cases e
  exact ⟨q'.1.trans (s2.trans (s3.trans s4)), S4.le h3⟩

/-- one turn -/
def Turn (X : Cx) (H0 : Hp) (C : Ctx) (tg : Expr) (R : Rel) (body : List Stmt) (Rr : Rel) (C' : Ctx) : Prop := ∃ G1 G2 ix, Gv X H0 C tg R G1 ix ∧ Bv X H0 G1 body (some G2) Rr ∧ CtxLe G2 C'
theorem turn_mk {C C' : Ctx} {body : List Stmt} (h1 : Gv X H0 C tg R G1 ix) (h2 : Bv X H0 G1 body (some G2) Rr) (h3 : CtxLe G2 C') : Turn X H0 C tg R body Rr C' := ⟨G1, G2, ix, h1, h2, h3⟩
theorem bv_forT {xs : List α} {R : α → Rel} (C : Nat → Ctx) {body sts : List Stmt} (B : Body X) (hi : Pv X H0 G tg iter xs R) (l0 : CtxLe G (C 0))
    (hb : ∀ i a, xs[i]? = some a → Turn X H0 (C i) tg (R a) body Rr (C (i + 1))) (hr : Bv X H0 (C xs.length) sts G' Rr) (hs : ∀ x, foldedSetIterable iter X.env x = pure x) :
    Bv X H0 G (.For tg iter body [] pos :: sts) G' Rr := bv_for B hi l0 hb hr hs
/-! ### list comprehensions -/
/-- what the block of a comprehension sees: names that stand in its scope and are not its own -/
inductive CtxBlk (scope : Scope) (own : List (Str × Nat)) : Ctx → Ctx → Prop
  | nil : CtxBlk scope own [] []
  | some {x : Str} {S : Rel} {C C' : Ctx} (hv : Vis scope x) (ho : x ∉ own.map (·.1)) (t : CtxBlk scope own C C') : CtxBlk scope own ((x, some S) :: C) ((x, some S) :: C')
  | none {x : Str} {o : Option Rel} {C C' : Ctx} (t : CtxBlk scope own C C') : CtxBlk scope own ((x, o) :: C) ((x, none) :: C')
theorem CtxBlk.le {scope : Scope} {own : List (Str × Nat)} {C C' : Ctx} (h : CtxBlk scope own C C') : CtxLe C C' := by
  induction h with
  | nil => exact .nil
  | some _ _ _ ih => exact .some (.refl _) ih
  | none _ ih => exact .none ih
theorem CtxBlk.get {scope : Scope} {own : List (Str × Nat)} {C C' : Ctx} (h : CtxBlk scope own C C') : ∀ {i : Nat} {x : Str} {S : Rel}, C'[i]? = Option.some (x, Option.some S) → Vis scope x ∧ x ∉ own.map (·.1) := by
  induction h with
  | nil => intro i x S e; simp at e
  | some hv ho _ ih =>
    intro i x S e
    cases i with
    | zero => simp at e; obtain ⟨rfl, rfl⟩ := e; exact ⟨hv, ho⟩
    | succ i => exact ih (i := i) (by simpa using e)
  | none _ ih =>
    intro i x S e
    cases i with
    | zero => simp at e
    | succ i => exact ih (i := i) (by simpa using e)
/-- what is known of a block's context -/
structure InBlk (X X' : Cx) (scope : Scope) : Prop where
  prog : X'.prog = X.prog
  w : X'.w = X.w
  K : X'.K = X.K
  mg : X'.mg = X.mg
  base : X'.base = X.base
  A : X'.A = X.A
  N : X'.N = X.N
  calm : X'.calm = X.calm
  sc : X'.env.scope = relabel scope X.env
theorem lookup_relabel {env : Env} {x : Str} : ∀ {names : List (Str × NameKind)}, (names.map fun (n, k) => if (k == NameKind.free && env.scope.kind == .function && env.kindOf n == some .cell) then (n, NameKind.cell) else (n, k)).lookup x =
    (names.lookup x).map fun k => if (k == NameKind.free && env.scope.kind == .function && env.kindOf x == some .cell) then NameKind.cell else k
  | [] => rfl
  | (n, k) :: r => by
    have ih := lookup_relabel (env := env) (x := x) (names := r)
    show List.lookup x ((if (k == NameKind.free && env.scope.kind == .function && env.kindOf n == some .cell) = true then (n, NameKind.cell) else (n, k)) :: _) = _
    cases hx : x == n with
    | true =>
      have e : x = n := eq_of_beq hx
      subst e
      by_cases hc : (k == NameKind.free && env.scope.kind == .function && env.kindOf x == some .cell) = true
      · rw [if_pos hc]
        simp only [List.lookup_cons, hx, Option.map_some, hc, if_true]
      · rw [if_neg hc]
        simp only [List.lookup_cons, hx, Option.map_some]
        rw [if_neg hc]
    | false =>
      by_cases hc : (k == NameKind.free && env.scope.kind == .function && env.kindOf n == some .cell) = true
      · rw [if_pos hc]
        simp only [List.lookup_cons, hx]
        exact ih
      · rw [if_neg hc]
        simp only [List.lookup_cons, hx]
        exact ih
theorem vis_relabel {scope : Scope} {env : Env} (h : Vis scope x) : Vis (relabel scope env) x := by
  have e : (relabel scope env).names.lookup x = _ := lookup_relabel (env := env) (x := x) (names := scope.names)
  unfold Vis
  rw [e]
  rcases h with h | h | h
  · rw [h]; exact .inl rfl
  · rw [h]; exact .inr (.inl rfl)
  · rw [h]
    show some (if _ then _ else _) = _ ∨ some (if _ then _ else _) = _ ∨ some (if _ then _ else _) = _
    split
    · exact .inr (.inl rfl)
    · exact .inr (.inr rfl)
theorem InBlk.sto {X' : Cx} {scope : Scope} (b : InBlk X X' scope) (h : scope.names.lookup x = some .local) : Sto X' x := by
  have e : X'.env.scope.names.lookup x = some .local := by
    rw [b.sc]
    have e : (relabel scope X.env).names.lookup x = _ := lookup_relabel (env := X.env) (x := x) (names := scope.names)
    rw [e, h]
    rfl
  exact ⟨.inl e, .inr e⟩
theorem InBlk.gl {X' : Cx} {scope : Scope} (b : InBlk X X' scope) (h : scope.names.lookup x = some .globalImplicit) : Gl X' x := by
  show X'.env.scope.names.lookup x = _
  rw [b.sc]
  have e : (relabel scope X.env).names.lookup x = _ := lookup_relabel (env := X.env) (x := x) (names := scope.names)
  rw [e, h]
  rfl
theorem CallOk.blk {X' : Cx} {scope : Scope} {Rs : List Rel} (b : InBlk X X' scope) (h : CallOk X x Rs R) : CallOk X' x Rs R := by
  obtain ⟨CX, E, k, f, fd, ps, sp, ds, dvs, F, hr, hm, hk, hb, hd, hx, hsp⟩ := h
  refine ⟨CX, E, k, f, fd, ps, sp, ds, dvs, ?_, by rw [b.A]; exact hr, by rw [b.mg]; exact hm, by rw [b.K]; exact hk, by rw [b.K]; exact hb, hd, fun Y h1 h2 => hx Y (h1.trans b.prog) (h2.trans b.w), hsp⟩
  rw [b.prog, b.w, b.K, b.mg, b.base]
  exact F
/-- one turn of a comprehension: the target, the test (or none), the element -/
inductive LcTest (X : Cx) (H0 : Hp) (G : Ctx) : List Expr → Bool → Prop
  | nil : LcTest X H0 G [] true
  | one {c : Expr} {u : Bool} (h : Tv X H0 G c u) : LcTest X H0 G [c] u

theorem gv_frame (h : Gv X H0 G tg R G1 ix) : PG X tg (fun v σ H Q => ∃ F, (∀ a ∈ F, Asd H F a) ∧ Same H0 (era H F) ∧ Slots X G σ (era H F) ∧ R.p v (era H F) ∧
    ∀ σ' H', Same (era H F) H' → (∀ a ∈ F, H' a = none) → Slots X G1 σ' H' → (∀ vs : List Nat, (∀ i ∈ ix, i ∈ vs) → wipe σ' vs = wipe σ vs) → Q σ' (res H' H F)) := by
  refine ⟨fun pins s σ H v u Q I r q => ?_⟩
  obtain ⟨F, hF, g, S, hr, q⟩ := q
  obtain ⟨P, hP, hPF, J⟩ := inv_aside I hF
  refine thn (h.run (pins ++ P) s σ (era H F) v u (fun σ' H' => Same (era H F) H' ∧ Slots X G1 σ' H' ∧ ∀ vs : List Nat, (∀ i ∈ ix, i ∈ vs) → wipe σ' vs = wipe σ vs) J r ⟨g, S, hr, fun σ' H' s' S' w' => ⟨s', S', w'⟩⟩) fun _ s' hh => ?_
  obtain ⟨σ', H', J', s', S', w'⟩ := hh
  have hn : ∀ a ∈ F, H' a = none := fun a ha => by
    obtain ⟨o, _, hp⟩ := hP a ha
    exact (J'.pin _ (List.mem_append_right _ (List.mem_append_right _ hp))).2.1
  exact ⟨σ', _, inv_back I hF hP J' hn, q σ' H' s' hn S' w'⟩
/-- the pieces of a block, whatever its state: the target, the test, the element -/
def gBlk (X : Cx) (scope : Scope) (H0 : Hp) (tg : Expr) : TG := fun v σ H Q => ∃ G R G1 ix, (∀ X', InBlk X X' scope → Gv X' H0 G tg R G1 ix) ∧ ∃ F, (∀ a ∈ F, Asd H F a) ∧ Same H0 (era H F) ∧ SlotsN X.N (relabel scope X.env) G σ (era H F) ∧ R.p v (era H F) ∧
  ∀ σ' H', Same (era H F) H' → (∀ a ∈ F, H' a = none) → SlotsN X.N (relabel scope X.env) G1 σ' H' → (∀ vs : List Nat, (∀ i ∈ ix, i ∈ vs) → wipe σ' vs = wipe σ vs) → Q σ' (res H' H F)
def tBlk (X : Cx) (scope : Scope) (H0 : Hp) (ifs : List Expr) : TT := fun σ H Q => ∃ G b, (∀ X', InBlk X X' scope → LcTest X' H0 G ifs b) ∧ ∃ F, (∀ a ∈ F, Asd H F a) ∧ Same H0 (era H F) ∧ SlotsN X.N (relabel scope X.env) G σ (era H F) ∧ ∀ H', Same (era H F) H' → (∀ a ∈ F, H' a = none) → Q b (res H' H F)
def eBlk (X : Cx) (scope : Scope) (H0 : Hp) (elt : Expr) : TE := fun σ H Q => ∃ G R, (∀ X', InBlk X X' scope → Ev X' H0 G elt R) ∧ ∃ F, (∀ a ∈ F, Asd H F a) ∧ Same H0 (era H F) ∧ SlotsN X.N (relabel scope X.env) G σ (era H F) ∧ ∀ v H', Same (era H F) H' → (∀ a ∈ F, H' a = none) → R.p v H' → Q v (res H' H F)
theorem res_era {H : Hp} {F : List Addr} : res (era H F) H F = H := by
  funext b
  by_cases hb : b ∈ F
  · rw [res_in hb]
  · rw [res_out hb, era_out hb]
theorem InBlk.slots {X' : Cx} {scope : Scope} (b : InBlk X X' scope) {σ : St} {H : Hp} : Slots X' G σ H ↔ SlotsN X.N (relabel scope X.env) G σ H := by
  unfold Slots
  rw [b.N, b.sc]
theorem pg_blk {X' : Cx} {scope : Scope} (b : InBlk X X' scope) : PG X' tg (gBlk X scope H0 tg) := ⟨fun pins s σ H v u Q I r q => by
  obtain ⟨G, R, G1, ix, hg, F, hF, g, S, hr, q⟩ := q
  exact (gv_frame (hg X' b)).run pins s σ H v u Q I r ⟨F, hF, g, b.slots.mpr S, hr, fun σ' H' s' hn S' w' => q σ' H' s' hn (b.slots.mp S') w'⟩⟩
theorem pts_blk {X' : Cx} {scope : Scope} {ifs : List Expr} (b : InBlk X X' scope) : PTs X' ifs (tBlk X scope H0 ifs) := by
  refine ⟨fun pins s σ H Q I q => ?_⟩
  obtain ⟨G, u, t, F, hF, g, S, q⟩ := q
  have t := t X' b
  cases t with
  | nil =>
    refine pts_nil.run pins s σ H Q I ?_
    show Q true H
    have z := q (era H F) (Same.refl _) fun a ha => era_in ha
    rw [res_era] at z
    exact z
  | one h => exact (pts_one h.frame).run pins s σ H Q I ⟨F, hF, g, b.slots.mpr S, q⟩
theorem pe_blk {X' : Cx} {scope : Scope} {elt : Expr} (b : InBlk X X' scope) : PE X' elt (eBlk X scope H0 elt) := ⟨fun pins s σ H Q I q => by
  obtain ⟨G, R, h, F, hF, g, S, q⟩ := q
  exact (h X' b).frame.run pins s σ H Q I ⟨F, hF, g, b.slots.mpr S, q⟩⟩
theorem SlotsN.up {N : List Str} {sc : Scope} {σ : St} {H H' : Hp} (s : Same H H') (h : SlotsN N sc G σ H) : SlotsN N sc G σ H' :=
  ⟨h.1, h.2.1, fun i x R e => by obtain ⟨k, v, a, b⟩ := h.2.2 i x R e; exact ⟨k, v, a, R.up s b⟩⟩
theorem slots_blk {N : List Str} {sc scope : Scope} {env : Env} {own : List (Str × Nat)} {Gb : Ctx} (hG : CtxBlk scope own G Gb) (ok : BlkOk N sc scope own) {σ : St} {H : Hp} (S : SlotsN N sc G σ H) : SlotsN N (relabel scope env) Gb (wipe σ (own.map (·.2))) H := by
  have l := hG.le
  refine ⟨by rw [l.names.1]; exact S.1, by rw [l.names.2, wipe_length]; exact S.2.1, fun i x R e => ?_⟩
  obtain ⟨hv, ho⟩ := hG.get e
  obtain ⟨S', e', l'⟩ := l.get e
  obtain ⟨_, v, a, b⟩ := S.2.2 i x S' e'
  refine ⟨vis_relabel hv, v, ?_, l' _ _ b⟩
  rw [wipe_get, if_neg ?_]
  · exact a
  · intro hm
    obtain ⟨p, hp, ei⟩ := List.mem_map.mp hm
    have q := ok.ix p hp
    rw [ei, S.1, List.getElem?_map, e'] at q
    have q' : x = p.1 := Option.some.inj q
    exact ho (by rw [q']; exact List.mem_map.mpr ⟨p, hp, rfl⟩)
theorem filter_take {keep : α → Bool} {xs : List α} {i : Nat} {a : α} (h : xs[i]? = some a) : (xs.take (i + 1)).filter keep = (xs.take i).filter keep ++ if keep a = true then [a] else [] := by
  obtain ⟨hi, e⟩ := List.getElem?_eq_some_iff.mp h
  rw [List.take_succ_eq_append_getElem hi, List.filter_append, e]
  by_cases hk : keep a = true
  · rw [if_pos hk, List.filter_cons_of_pos hk]; rfl
  · rw [if_neg hk, List.filter_cons_of_neg hk]; rfl
theorem lc_sound {xs : List α} {R S : α → Rel} {keep : α → Bool} {elt : Expr} {ifs : List Expr} {scope : Scope} {own : List (Str × Nat)} {Gb : Ctx} {wi : TI} {σ : St} {H : Hp} {Q : VK} (hlen : xs.length ≤ sizeLine)
    (hw : ∀ σ H (Rk : It → Hp → Prop), Same H0 H → Slots X G σ H → (∀ J H1, Same H H1 → ItW J xs R H1 → Rk J H1) → wi σ H Rk) (ok : BlkOk X.N X.env.scope scope own) (hG : CtxBlk scope own G Gb)
    (hb : ∀ a ∈ xs, ∃ G1 ix, (∀ i ∈ ix, i ∈ own.map (·.2)) ∧ (∀ X', InBlk X X' scope → Gv X' H0 Gb tg (R a) G1 ix) ∧ (∀ X', InBlk X X' scope → LcTest X' H0 G1 ifs (keep a)) ∧ (keep a = true → ∀ X', InBlk X X' scope → Ev X' H0 G1 elt (S a)))
    (q : tEv X H0 G (lstR ((xs.filter keep).map S)) σ H Q) : tLc wi (gBlk X scope H0 tg) (tBlk X scope H0 ifs) (eBlk X scope H0 elt) (own.map (·.2)) σ H Q := by
  obtain ⟨g, Sl, q⟩ := q
  refine hw σ H _ g Sl fun J H1 s1 W D hD => ?_
  obtain ⟨Gd, Y, hGd, hGs, wk, hy, hfr⟩ := W
  have sub : ∀ {H' : Hp} {zs : List V}, Same H1 H' → H' D = none → Same H1 (upd H' D (.lst zs)) := fun s hn => s.trans (same_new hn)
  -- between two turns: D holds what was kept so far, all else beside D as the pure part tells
  refine lc_it wk (fun i H' => ∃ (acc : List V) (Hp0 : Hp), Same H1 Hp0 ∧ Hp0 D = none ∧ H' = upd Hp0 D (.lst acc) ∧ Args (((xs.take i).filter keep).map S) acc Hp0) ⟨[], H1, Same.refl _, hD, rfl, by simp [Args]⟩ (fun i H' _ h => ?_) (fun i x H' H2 hi h y => ?_) fun H' h => ?_
  · obtain ⟨acc, Hq, sq, nq, rfl, _⟩ := h
    exact hGs _ (sub sq nq)
  · obtain ⟨acc, Hq, sq, nq, rfl, ra⟩ := h
    obtain ⟨Hr, rfl, nr, y'⟩ := hfr i Hq x H2 D _ nq y
    obtain ⟨s2, a, ea, hra⟩ := hy i Hq x Hr hi sq y'
    obtain ⟨G1, ix, hix, hg, ht, he⟩ := hb a (List.mem_of_getElem? ea)
    have s2' := sq.trans s2
    have ham : a ∈ xs := List.mem_of_getElem? ea
    have one : ∀ {H' : Hp} {zs : List V}, (∀ b ∈ [D], Asd (upd H' D (.lst zs)) [D] b) := fun b hb => by
      rw [List.mem_singleton] at hb
      subst hb
      exact .lst upd_same
    have e1 : ∀ {H' : Hp} {zs : List V}, H' D = none → era (upd H' D (.lst zs)) [D] = H' := fun {H' zs} hn => by
      funext b
      by_cases hb : b = D
      · subst hb; rw [era_in List.mem_cons_self, hn]
      · rw [era_out (by simpa using hb), upd_ne hb]
    have e2 : ∀ {H' H'' : Hp} {zs : List V}, res H' (upd H'' D (.lst zs)) [D] = upd H' D (.lst zs) := fun {H' H'' zs} => by
      funext b
      by_cases hb : b = D
      · subst hb; rw [res_in List.mem_cons_self, upd_same, upd_same]
      · rw [res_out (by simpa using hb), upd_ne hb]
    have nD : ∀ {H' : Hp}, (∀ b ∈ [D], H' b = none) → H' D = none := fun h => h D List.mem_cons_self
    refine ⟨Gb, R a, G1, ix, hg, [D], one, ?_⟩
    rw [e1 nr]
    refine ⟨g.trans (s1.trans s2'), (slots_blk hG ok Sl).up (s1.trans s2'), hra, fun σ3 H3 s3 n3 S3 w3 => ⟨?_, ?_⟩⟩
    · rw [w3 _ hix]
      apply List.ext_getElem?
      intro j
      rw [wipe_get, wipe_get]
      by_cases hj : j ∈ own.map (·.2)
      · rw [if_pos hj, if_pos hj]
        cases σ[j]? <;> rfl
      · rw [if_neg hj, if_neg hj]
    refine ⟨G1, keep a, ht, [D], by rw [e2]; exact one, ?_⟩
    rw [e2, e1 (nD n3)]
    have s3' := s2'.trans s3
    refine ⟨g.trans (s1.trans s3'), S3, fun H4 s4 n4 => ?_⟩
    rw [e2]
    have s4' := s3'.trans s4
    cases hk : keep a with
    | false =>
      refine iteF ⟨acc, H4, s4', nD n4, rfl, ?_⟩
      rw [filter_take ea, if_neg (by rw [hk]; exact Bool.false_ne_true), List.append_nil]
      exact ra.up (s2.trans (s3.trans s4))
    | true =>
      refine iteT ⟨G1, S a, he hk, [D], one, ?_⟩
      rw [e1 (nD n4)]
      refine ⟨g.trans (s1.trans s4'), S3.up s4, fun v H5 s5 n5 r5 => ?_⟩
      rw [e2]
      have hl := ra.length
      have hl2 : ((xs.take i).filter keep).length ≤ i := by
        have := List.length_filter_le keep (xs.take i)
        rw [List.length_take] at this
        omega
      rw [List.length_map] at hl
      refine ⟨acc, upd_same, by omega, acc ++ [v], H5, s4'.trans s5, nD n5, upd_upd, ?_⟩
      rw [filter_take ea, if_pos hk, List.map_append]
      exact (ra.up (s2.trans (s3.trans (s4.trans s5)))).append ⟨r5, trivial⟩
  · obtain ⟨acc, Hq, sq, nq, rfl, ra⟩ := h
    rw [List.take_length] at ra
    exact q _ _ (s1.trans (sub sq nq)) ⟨D, acc, rfl, upd_same, ra.up (same_new nq)⟩
theorem inBlk {scope : Scope} {s : Shared} {H : Hp} {C : Addr} {cl : List (Str × Addr)} {fp : List Addr} : InBlk X (X.blk s H scope (compEnvC scope cl C X.env) fp) scope := ⟨rfl, rfl, rfl, rfl, rfl, rfl, rfl, rfl, rfl⟩
/-- [e for tg in iter if ..] -/
theorem ev_lc {xs : List α} {R S : α → Rel} (keep : α → Bool) {elt : Expr} {ifs : List Expr} {scope : Scope} {own : List (Str × Nat)} {Gb : Ctx} (hc : X.calm = true) (hd : X.N.Nodup) (hi : Pv X H0 G tg iter xs R) (hlen : xs.length ≤ sizeLine) (ok : BlkOk X.N X.env.scope scope own) (hG : CtxBlk scope own G Gb)
    (hb : ∀ a ∈ xs, ∃ G1 ix, (∀ i ∈ ix, i ∈ own.map (·.2)) ∧ (∀ X', InBlk X X' scope → Gv X' H0 Gb tg (R a) G1 ix) ∧ (∀ X', InBlk X X' scope → LcTest X' H0 G1 ifs (keep a)) ∧ (keep a = true → ∀ X', InBlk X X' scope → Ev X' H0 G1 elt (S a)))
    (hs : ∀ x, foldedSetIterable iter X.env x = pure x) : Ev X H0 G (.ListComp elt [⟨tg, iter, ifs, 0⟩] scope pos) (lstR ((xs.filter keep).map S)) := by
  obtain ⟨wi, hpi, hw⟩ := hi
  exact PE_imp (pe_lc hc hd hpi ok (fun _ _ _ _ _ => pg_blk (H0 := H0) inBlk) (fun _ _ _ _ _ => pts_blk (H0 := H0) inBlk) (fun _ _ _ _ _ => pe_blk (H0 := H0) inBlk) hs) fun σ H Q q => lc_sound hlen hw ok hG hb q
/-- y = [e for tg in iter if ..] on one line -/
theorem bv_setLc {xs : List α} {R S : α → Rel} (keep : α → Bool) {elt : Expr} {ifs : List Expr} {scope : Scope} {own : List (Str × Nat)} {Gb : Ctx} {sts : List Stmt} {py spos : Pos} (B : Body X) (hi : Pv X H0 G tg iter xs R) (hlen : xs.length ≤ sizeLine) (ok : BlkOk X.N X.env.scope scope own) (hG : CtxBlk scope own G Gb)
    (hb : ∀ a ∈ xs, ∃ G1 ix, (∀ i ∈ ix, i ∈ own.map (·.2)) ∧ (∀ X', InBlk X X' scope → Gv X' H0 Gb tg (R a) G1 ix) ∧ (∀ X', InBlk X X' scope → LcTest X' H0 G1 ifs (keep a)) ∧ (keep a = true → ∀ X', InBlk X X' scope → Ev X' H0 G1 elt (S a)))
    (c : SetCtx x (some (lstR ((xs.filter keep).map S))) G G1 i) (h2 : Bv X H0 G1 sts G' Rr) (hyl : X.env.scope.names.lookup x = some .local) (hsw : swapsWith (.ListComp elt [⟨tg, iter, ifs, 0⟩] scope pos) (some (.Name x py)) spos.line X.env = pure true) (hs : ∀ x, foldedSetIterable iter X.env x = pure x) :
    Bv X H0 G (.Assign [.Name x py] (.ListComp elt [⟨tg, iter, ifs, 0⟩] scope pos) spos :: sts) G' Rr := by
  obtain ⟨wi, hpi, hw⟩ := hi
  refine bv_cons (G1 := G1) ?_ h2
  by_cases hN : X.N = G.map (·.1)
  · have hy : X.N[i]? = some x := by rw [hN]; exact c.name
    refine PS_imp (ps_setLc B.calm B.nd hy hyl hsw hpi ok (fun _ _ _ _ _ => pg_blk (H0 := H0) inBlk) (fun _ _ _ _ _ => pts_blk (H0 := H0) inBlk) (fun _ _ _ _ _ => pe_blk (H0 := H0) inBlk) hs) fun D σ H q => ?_
    obtain ⟨g, Sl, qn, q⟩ := q
    exact lc_sound (Q := fun v H1 => gName i v σ H1 D.nx) hlen hw ok hG hb ⟨g, Sl, fun v H' s r => qn _ _ _ rfl s (Slots.set (.inl hyl) c (Sl.up s) r)⟩
  · exact PS_imp ps_never fun D σ H q => hN q.2.1.1
end
end Fk

/-! told parts: plain math -/
namespace Fk
open PySem L2
inductive Told where
  | num (i : Int)
  | node (a : Int) (l r : Told)
  deriving DecidableEq
/-! ### the number at a place: a place is an endless row of turns -/
abbrev Pl := Nat → Bool
def Pl.shift (p : Pl) : Pl := fun n => p (n + 1)
def pcons (b : Bool) (p : Pl) : Pl := fun n => match n with | 0 => b | n + 1 => p n
@[simp] theorem shift_pcons (b : Bool) (p : Pl) : Pl.shift (pcons b p) = p := rfl
@[simp] theorem pcons_0 (b : Bool) (p : Pl) : pcons b p 0 = b := rfl
namespace Told
def depth : Told → Nat
  | num _ => 0
  | node _ l r => max l.depth r.depth + 1
def isNode : Told → Bool
  | num _ => false
  | node _ _ _ => true
def base : Told → Int
  | num i => i
  | node a _ _ => a
def lift (m : Int) : Told → Told
  | num i => num (i + m)
  | node a l r => node (a + m) l r
def spread (n : Int) (l r : Told) : Told := if l = r ∧ l.isNode = false then num (n + l.base) else node (n + min l.base r.base) (l.lift (-(min l.base r.base))) (r.lift (-(min l.base r.base)))
def least : Told → Told
  | num i => num i
  | node a l r => spread a l.least r.least
def greatest : Told → Int
  | num i => i
  | node a l r => a + max l.greatest r.greatest
def left : Told → Told
  | num i => num i
  | node a l _ => l.lift a
def right : Told → Told
  | num i => num i
  | node a _ r => r.lift a
/-- never less than nothing -/
def nn : Told → Bool
  | num i => decide (0 ≤ i)
  | node a l r => decide (0 ≤ a) && l.nn && r.nn
@[simp] theorem lift_depth (m : Int) (t : Told) : (t.lift m).depth = t.depth := by cases t <;> rfl
@[simp] theorem lift_isNode (m : Int) (t : Told) : (t.lift m).isNode = t.isNode := by cases t <;> rfl
@[simp] theorem lift_base (m : Int) (t : Told) : (t.lift m).base = t.base + m := by cases t <;> rfl
theorem lift_inj {m : Int} {s t : Told} (h : s.lift m = t.lift m) : s = t := by
  cases s <;> cases t <;> simp [lift] at h ⊢ <;> first | omega | exact ⟨by omega, h.2⟩
theorem spread_depth (n : Int) (l r : Told) : (spread n l r).depth ≤ max l.depth r.depth + 1 := by
  unfold spread
  split
  · exact Nat.zero_le _
  · simp [depth]
theorem least_depth : ∀ t : Told, t.least.depth ≤ t.depth
  | num _ => Nat.le_refl _
  | node a l r => by
    have h := spread_depth a l.least r.least
    have h1 := least_depth l
    have h2 := least_depth r
    simp only [least, depth]
    omega
theorem left_depth (t : Told) : t.left.depth ≤ t.depth - 1 := by cases t <;> simp [left, depth]; omega
theorem right_depth (t : Told) : t.right.depth ≤ t.depth - 1 := by cases t <;> simp [right, depth]; omega
def T : Told → Pl → Int
  | num i, _ => i
  | node a l r, p => a + if p 0 then r.T p.shift else l.T p.shift
@[simp] theorem T_num (i : Int) (p : Pl) : (num i).T p = i := rfl
@[simp] theorem T_node (a : Int) (l r : Told) (p : Pl) : (node a l r).T p = a + if p 0 then r.T p.shift else l.T p.shift := rfl
@[simp] theorem T_lift (m : Int) (t : Told) (p : Pl) : (t.lift m).T p = t.T p + m := by
  cases t
  · rfl
  · simp [lift]; omega
/-- in its least form -/
def Norm : Told → Prop
  | num _ => True
  | node _ l r => l.Norm ∧ r.Norm ∧ min l.base r.base = 0 ∧ ¬ (l = r ∧ l.isNode = false)
theorem norm_lift {m : Int} {t : Told} (h : t.Norm) : (t.lift m).Norm := by cases t <;> exact h
theorem norm_spread {n : Int} {l r : Told} (hl : l.Norm) (hr : r.Norm) : (spread n l r).Norm := by
  unfold spread
  split
  · trivial
  · rename_i h
    refine ⟨norm_lift hl, norm_lift hr, by simp; omega, fun q => h ?_⟩
    exact ⟨lift_inj q.1, by simpa using q.2⟩
theorem norm_least : ∀ t : Told, t.least.Norm
  | num _ => trivial
  | node _ l r => norm_spread (norm_least l) (norm_least r)
theorem T_spread (n : Int) (l r : Told) (p : Pl) : (spread n l r).T p = n + if p 0 then r.T p.shift else l.T p.shift := by
  unfold spread
  split
  · rename_i h
    obtain ⟨rfl, h⟩ := h
    cases l with
    | num i => simp [base]
    | node => cases h
  · simp only [T_node, T_lift]
    split <;> omega
theorem T_least : ∀ (t : Told) (p : Pl), t.least.T p = t.T p
  | num _, _ => rfl
  | node a l r, p => by
    show (spread a l.least r.least).T p = _
    rw [T_spread, T_least l, T_least r]
    rfl
theorem norm_left {t : Told} (h : t.Norm) : t.left.Norm := by
  cases t
  · trivial
  · exact norm_lift h.1
theorem norm_right {t : Told} (h : t.Norm) : t.right.Norm := by
  cases t
  · trivial
  · exact norm_lift h.2.1
theorem T_left (t : Told) (p : Pl) : t.left.T p = t.T (pcons false p) := by cases t <;> simp [left]; omega
theorem T_right (t : Told) (p : Pl) : t.right.T p = t.T (pcons true p) := by cases t <;> simp [right]; omega
theorem base_le : ∀ {t : Told}, t.Norm → ∀ p, t.base ≤ t.T p
  | num _, _, _ => Int.le_refl _
  | node a l r, h, p => by
    have h1 := base_le h.1 p.shift
    have h2 := base_le h.2.1 p.shift
    have h3 := h.2.2.1
    show a ≤ a + if p 0 then r.T p.shift else l.T p.shift
    split <;> omega
theorem base_at : ∀ {t : Told}, t.Norm → ∃ p, t.T p = t.base
  | num _, _ => ⟨fun _ => false, rfl⟩
  | node a l r, h => by
    obtain ⟨p, hp⟩ := base_at h.1
    obtain ⟨q, hq⟩ := base_at h.2.1
    have h3 := h.2.2.1
    by_cases hm : l.base ≤ r.base
    · exact ⟨pcons false p, by
        have e : (node a l r).T (pcons false p) = a + l.base := by simp [hp]
        rw [e]
        show a + l.base = a
        omega⟩
    · exact ⟨pcons true q, by
        have e : (node a l r).T (pcons true q) = a + r.base := by simp [hq]
        rw [e]
        show a + r.base = a
        omega⟩
theorem le_greatest : ∀ (t : Told) (p : Pl), t.T p ≤ t.greatest
  | num _, _ => Int.le_refl _
  | node a l r, p => by
    have h1 := le_greatest l p.shift
    have h2 := le_greatest r p.shift
    show a + (if p 0 then r.T p.shift else l.T p.shift) ≤ a + max l.greatest r.greatest
    split <;> omega
theorem greatest_at : ∀ t : Told, ∃ p, t.T p = t.greatest
  | num _ => ⟨fun _ => false, rfl⟩
  | node a l r => by
    obtain ⟨p, hp⟩ := greatest_at l
    obtain ⟨q, hq⟩ := greatest_at r
    by_cases hm : r.greatest ≤ l.greatest
    · exact ⟨pcons false p, by simp [hp, greatest]; omega⟩
    · exact ⟨pcons true q, by simp [hq, greatest]; omega⟩
theorem norm_const : ∀ {t : Told} {i : Int}, t.Norm → (∀ p, t.T p = i) → t = num i
  | num j, i, _, h => by rw [show j = i from h fun _ => false]
  | node a l r, i, n, h => by
    have hl : l = num (i - a) := norm_const n.1 fun p => by
      have q := h (pcons false p)
      simp at q
      omega
    have hr : r = num (i - a) := norm_const n.2.1 fun p => by
      have q := h (pcons true p)
      simp at q
      omega
    exact absurd ⟨hl.trans hr.symm, by rw [hl]; rfl⟩ n.2.2.2
/-- what tells the same, in the least form, is the same -/
theorem uniq : ∀ {s t : Told}, s.Norm → t.Norm → (∀ p, s.T p = t.T p) → s = t
  | num i, t, _, nt, h => (norm_const nt fun p => (h p).symm).symm
  | node a l r, num j, ns, _, h => norm_const ns h
  | node a l r, node b l' r', ns, nt, h => by
    have e : a = b := by
      obtain ⟨p, hp⟩ := base_at ns
      obtain ⟨q, hq⟩ := base_at nt
      have h1 := base_le nt p
      have h2 := base_le ns q
      rw [← h] at h1
      rw [h] at h2
      simp only [base] at *
      omega
    subst e
    have hl : l = l' := uniq ns.1 nt.1 fun p => by
      have q := h (pcons false p)
      simp at q
      omega
    have hr : r = r' := uniq ns.2.1 nt.2.1 fun p => by
      have q := h (pcons true p)
      simp at q
      omega
    rw [hl, hr]
theorem least_norm {t : Told} (h : t.Norm) : t.least = t := uniq (norm_least t) h (T_least t)
theorem least_least (t : Told) : t.least.least = t.least := least_norm (norm_least t)
/-! ### never less than nothing -/
theorem nn_base {t : Told} (h : t.nn = true) : 0 ≤ t.base := by
  cases t <;> simp [nn] at h <;> simp [base]
  · exact h
  · exact h.1.1
theorem nn_lift {m : Int} {t : Told} (h : t.nn = true) (hm : 0 ≤ t.base + m) : (t.lift m).nn = true := by
  cases t <;> simp [nn, lift, base] at *
  · exact hm
  · exact ⟨⟨hm, h.1.2⟩, h.2⟩
theorem nn_spread {n : Int} {l r : Told} (hn : 0 ≤ n) (hl : l.nn = true) (hr : r.nn = true) : (spread n l r).nn = true := by
  have h1 := nn_base hl
  have h2 := nn_base hr
  unfold spread
  split
  · simp [nn]; omega
  · simp only [nn, Bool.and_eq_true, decide_eq_true_eq]
    exact ⟨⟨by omega, nn_lift hl (by omega)⟩, nn_lift hr (by omega)⟩
theorem nn_least : ∀ {t : Told}, t.nn = true → t.least.nn = true
  | num _, h => h
  | node a l r, h => by
    simp only [nn, Bool.and_eq_true, decide_eq_true_eq] at h
    exact nn_spread h.1.1 (nn_least h.1.2) (nn_least h.2)
end Told
/-! ### the numbers at the places by so many halvings -/
def tvals : Nat → Told → List Int
  | 0, t => [t.base]
  | d + 1, .num i => tvals d (.num i) ++ tvals d (.num i)
  | d + 1, .node a l r => (tvals d l ++ tvals d r).map (a + ·)
theorem tvals_length : ∀ (d : Nat) (t : Told), (tvals d t).length = 2 ^ d
  | 0, _ => rfl
  | d + 1, .num i => by simp [tvals, tvals_length d, Nat.pow_succ]; omega
  | d + 1, .node a l r => by simp [tvals, tvals_length d, Nat.pow_succ]; omega
/-- what a row of numbers tells at a place -/
def rd : Nat → List Int → Pl → Int
  | 0, ns, _ => ns.headD 0
  | d + 1, ns, p => if p 0 then rd d (ns.drop (2 ^ d)) p.shift else rd d (ns.take (2 ^ d)) p.shift
theorem rd_tvals : ∀ (d : Nat) (t : Told) (p : Pl), t.depth ≤ d → rd d (tvals d t) p = t.T p
  | 0, .num i, p, _ => rfl
  | 0, .node _ _ _, _, h => by simp [Told.depth] at h
  | d + 1, .num i, p, _ => by
    have l := tvals_length d (.num i)
    simp only [rd, tvals, List.drop_left' l, List.take_left' l]
    rw [rd_tvals d (.num i) _ (Nat.zero_le _)]
    simp
  | d + 1, .node a l r, p, h => by
    have hl := tvals_length d l
    simp only [Told.depth] at h
    simp only [rd, tvals, List.map_append]
    rw [List.drop_left' (by rw [List.length_map, hl]), List.take_left' (by rw [List.length_map, hl]), Told.T_node]
    have e : ∀ (s : Told) (q : Pl), s.depth ≤ d → rd d ((tvals d s).map (a + ·)) q = a + s.T q := fun s q hs => by
      rw [← rd_tvals d s q hs]
      have go : ∀ (d : Nat) (ns : List Int) (q : Pl), ns.length = 2 ^ d → rd d (ns.map (a + ·)) q = a + rd d ns q := by
        intro d
        induction d with
        | zero =>
          intro ns q h
          match ns, h with
          | [n], _ => rfl
        | succ d ih =>
          intro ns q h
          rw [Nat.pow_succ] at h
          simp only [rd, ← List.map_drop, ← List.map_take]
          rw [ih _ _ (by rw [List.length_drop]; omega), ih _ _ (by rw [List.length_take]; omega)]
          split <;> rfl
      exact go d _ q (tvals_length d s)
    rw [e l _ (by omega), e r _ (by omega)]
    split <;> rfl
theorem rd_map (f : Int → Int) : ∀ (d : Nat) (ns : List Int) (q : Pl), ns.length = 2 ^ d → rd d (ns.map f) q = f (rd d ns q)
  | 0, [n], _, _ => rfl
  | 0, [], _, h => by simp at h
  | 0, _ :: _ :: _, _, h => by simp at h
  | d + 1, ns, q, h => by
    rw [Nat.pow_succ] at h
    simp only [rd, ← List.map_drop, ← List.map_take]
    rw [rd_map f d _ _ (by rw [List.length_drop]; omega), rd_map f d _ _ (by rw [List.length_take]; omega)]
    split <;> rfl
theorem rd_zip (f : Int → Int → Int) : ∀ (d : Nat) (ns ms : List Int) (q : Pl), ns.length = 2 ^ d → ms.length = 2 ^ d → rd d ((ns.zip ms).map fun x => f x.1 x.2) q = f (rd d ns q) (rd d ms q)
  | 0, [n], [m], _, _, _ => rfl
  | 0, [], _, _, h, _ => by simp at h
  | 0, _ :: _ :: _, _, _, h, _ => by simp at h
  | 0, [_], [], _, _, h => by simp at h
  | 0, [_], _ :: _ :: _, _, _, h => by simp at h
  | d + 1, ns, ms, q, h, h' => by
    rw [Nat.pow_succ] at h h'
    simp only [rd, ← List.map_drop, ← List.map_take, List.zip_eq_zipWith, List.drop_zipWith, List.take_zipWith]
    simp only [← List.zip_eq_zipWith]
    rw [rd_zip f d _ _ _ (by rw [List.length_drop]; omega) (by rw [List.length_drop]; omega), rd_zip f d _ _ _ (by rw [List.length_take]; omega) (by rw [List.length_take]; omega)]
    split <;> rfl
theorem rd_mem : ∀ (d : Nat) (ns : List Int) (q : Pl), ns.length = 2 ^ d → rd d ns q ∈ ns
  | 0, [n], _, _ => by simp [rd]
  | 0, [], _, h => by simp at h
  | 0, _ :: _ :: _, _, h => by simp at h
  | d + 1, ns, q, h => by
    rw [Nat.pow_succ] at h
    simp only [rd]
    split
    · exact List.mem_of_mem_drop (rd_mem d _ _ (by rw [List.length_drop]; omega))
    · exact List.mem_of_mem_take (rd_mem d _ _ (by rw [List.length_take]; omega))
theorem mem_rd : ∀ (d : Nat) (ns : List Int) (x : Int), ns.length = 2 ^ d → x ∈ ns → ∃ q, rd d ns q = x
  | 0, [n], x, _, h => by simp at h; subst h; exact ⟨fun _ => false, rfl⟩
  | 0, [], _, h, _ => by simp at h
  | 0, _ :: _ :: _, _, h, _ => by simp at h
  | d + 1, ns, x, h, hx => by
    rw [Nat.pow_succ] at h
    rw [← List.take_append_drop (2 ^ d) ns, List.mem_append] at hx
    rcases hx with hx | hx
    · obtain ⟨q, e⟩ := mem_rd d _ x (by rw [List.length_take]; omega) hx
      exact ⟨pcons false q, by simp [rd, e]⟩
    · obtain ⟨q, e⟩ := mem_rd d _ x (by rw [List.length_drop]; omega) hx
      exact ⟨pcons true q, by simp [rd, e]⟩
theorem rd_ext : ∀ (d : Nat) (ns ms : List Int), ns.length = 2 ^ d → ms.length = 2 ^ d → (∀ q, rd d ns q = rd d ms q) → ns = ms
  | 0, [n], [m], _, _, h => by rw [show n = m from h fun _ => false]
  | 0, [], _, h, _, _ => by simp at h
  | 0, _ :: _ :: _, _, h, _, _ => by simp at h
  | 0, [_], [], _, h, _ => by simp at h
  | 0, [_], _ :: _ :: _, _, h, _ => by simp at h
  | d + 1, ns, ms, h1, h2, h => by
    rw [Nat.pow_succ] at h1 h2
    rw [← List.take_append_drop (2 ^ d) ns, ← List.take_append_drop (2 ^ d) ms]
    rw [rd_ext d (ns.take (2 ^ d)) (ms.take (2 ^ d)) (by rw [List.length_take]; omega) (by rw [List.length_take]; omega) fun q => by simpa [rd] using h (pcons false q)]
    rw [rd_ext d (ns.drop (2 ^ d)) (ms.drop (2 ^ d)) (by rw [List.length_drop]; omega) (by rw [List.length_drop]; omega) fun q => by simpa [rd] using h (pcons true q)]
/-- the least told part of a row of numbers -/
def toldOf : Nat → List Int → Told
  | 0, ns => .num (lmin ns)
  | d + 1, ns => if ns.count (lmin ns) = ns.length then .num (lmin ns) else
    .node (lmin ns) (toldOf d ((ns.map (· - lmin ns)).take (ns.length / 2))) (toldOf d ((ns.map (· - lmin ns)).drop (ns.length / 2)))
theorem toldOf_depth : ∀ (d : Nat) (ns : List Int), (toldOf d ns).depth ≤ d
  | 0, _ => Nat.le_refl _
  | d + 1, ns => by
    unfold toldOf
    split
    · exact Nat.zero_le _
    · have h1 := toldOf_depth d ((ns.map (· - lmin ns)).take (ns.length / 2))
      have h2 := toldOf_depth d ((ns.map (· - lmin ns)).drop (ns.length / 2))
      simp only [Told.depth]
      omega
theorem ne_of_pow {d : Nat} {ns : List Int} (h : ns.length = 2 ^ d) : ns ≠ [] := by
  rintro rfl
  have : 0 < 2 ^ d := Nat.pow_pos (by decide)
  simp at h
  omega
theorem T_toldOf : ∀ (d : Nat) (ns : List Int) (p : Pl), ns.length = 2 ^ d → (toldOf d ns).T p = rd d ns p
  | 0, [n], _, _ => rfl
  | 0, [], _, h => by simp at h
  | 0, _ :: _ :: _, _, h => by simp at h
  | d + 1, ns, p, h => by
    have hh : ns.length / 2 = 2 ^ d := by rw [h, Nat.pow_succ]; omega
    have h' := h
    rw [Nat.pow_succ] at h'
    unfold toldOf
    split
    · rename_i hc
      have e := List.count_eq_length.mp hc
      exact (e _ (rd_mem (d + 1) ns p h)).symm ▸ rfl
    · simp only [Told.T_node, hh]
      rw [T_toldOf d ((ns.map (· - lmin ns)).take (2 ^ d)) _ (by rw [List.length_take, List.length_map]; omega), T_toldOf d ((ns.map (· - lmin ns)).drop (2 ^ d)) _ (by rw [List.length_drop, List.length_map]; omega)]
      simp only [← List.map_drop, ← List.map_take]
      rw [rd_map _ d _ _ (by rw [List.length_drop]; omega), rd_map _ d _ _ (by rw [List.length_take]; omega)]
      simp only [rd]
      split <;> omega
theorem norm_toldOf : ∀ (d : Nat) (ns : List Int), ns.length = 2 ^ d → (toldOf d ns).Norm
  | 0, _, _ => trivial
  | d + 1, ns, h => by
    have hh : ns.length / 2 = 2 ^ d := by rw [h, Nat.pow_succ]; omega
    have h' := h
    rw [Nat.pow_succ] at h'
    unfold toldOf
    split
    · trivial
    · rename_i hc
      have l1 : ((ns.map (· - lmin ns)).take (ns.length / 2)).length = 2 ^ d := by rw [List.length_take, List.length_map]; omega
      have l2 : ((ns.map (· - lmin ns)).drop (ns.length / 2)).length = 2 ^ d := by rw [List.length_drop, List.length_map]; omega
      have n1 := norm_toldOf d _ l1
      have n2 := norm_toldOf d _ l2
      have hmin : ∀ x ∈ ns.map (· - lmin ns), 0 ≤ x := fun x hx => by
        obtain ⟨y, hy, rfl⟩ := List.mem_map.mp hx
        have := lmin_le hy
        show 0 ≤ y - lmin ns
        omega
      have b1 : 0 ≤ (toldOf d ((ns.map (· - lmin ns)).take (ns.length / 2))).base := by
        obtain ⟨p, hp⟩ := Told.base_at n1
        rw [← hp, T_toldOf d _ _ l1]
        exact hmin _ (List.mem_of_mem_take (rd_mem d _ _ l1))
      have b2 : 0 ≤ (toldOf d ((ns.map (· - lmin ns)).drop (ns.length / 2))).base := by
        obtain ⟨p, hp⟩ := Told.base_at n2
        rw [← hp, T_toldOf d _ _ l2]
        exact hmin _ (List.mem_of_mem_drop (rd_mem d _ _ l2))
      refine ⟨n1, n2, ?_, fun q => hc ?_⟩
      · have hz : (0 : Int) ∈ ns.map (· - lmin ns) := List.mem_map.mpr ⟨lmin ns, lmin_mem (ne_of_pow h), by omega⟩
        rw [← List.take_append_drop (ns.length / 2) (ns.map (· - lmin ns)), List.mem_append] at hz
        rcases hz with hz | hz
        · obtain ⟨q, e⟩ := mem_rd d _ _ l1 hz
          have := Told.base_le n1 q
          rw [T_toldOf d _ _ l1, e] at this
          omega
        · obtain ⟨q, e⟩ := mem_rd d _ _ l2 hz
          have := Told.base_le n2 q
          rw [T_toldOf d _ _ l2, e] at this
          omega
      · obtain ⟨e, hn⟩ := q
        cases ec : toldOf d ((ns.map (· - lmin ns)).take (ns.length / 2)) with
        | node a l r => rw [ec] at hn; cases hn
        | num i =>
          rw [List.count_eq_length]
          have all : ∀ x ∈ ns.map (· - lmin ns), x = i := fun x hx => by
            rw [← List.take_append_drop (ns.length / 2) (ns.map (· - lmin ns)), List.mem_append] at hx
            rcases hx with hx | hx
            · obtain ⟨q, eq⟩ := mem_rd d _ _ l1 hx
              rw [← eq, ← T_toldOf d _ _ l1, ec]
              rfl
            · obtain ⟨q, eq⟩ := mem_rd d _ _ l2 hx
              rw [← eq, ← T_toldOf d _ _ l2, ← e, ec]
              rfl
          have iz := all _ (List.mem_map.mpr ⟨lmin ns, lmin_mem (ne_of_pow h), rfl⟩)
          intro x hx
          have := all _ (List.mem_map.mpr ⟨x, hx, rfl⟩)
          omega
theorem toldOf_tvals (d : Nat) (t : Told) (h : t.depth ≤ d) : toldOf d (tvals d t) = t.least :=
  Told.uniq (norm_toldOf d _ (tvals_length d t)) (Told.norm_least t) fun p => by rw [T_toldOf d _ _ (tvals_length d t), rd_tvals d t p h, Told.T_least]
theorem base_least (d : Nat) (t : Told) (h : t.depth ≤ d) : t.least.base = lmin (tvals d t) := by
  have hl := tvals_length d t
  obtain ⟨p, hp⟩ := Told.base_at (Told.norm_least t)
  rw [Told.T_least, ← rd_tvals d t p h] at hp
  have h1 := lmin_le (rd_mem d _ p hl)
  obtain ⟨q, hq⟩ := mem_rd d _ _ hl (lmin_mem (ne_of_pow hl))
  have h2 := Told.base_le (Told.norm_least t) q
  rw [Told.T_least, ← rd_tvals d t q h, hq] at h2
  omega
theorem greatest_least (d : Nat) (t : Told) (h : t.depth ≤ d) : t.least.greatest = lmax (tvals d t) := by
  have hl := tvals_length d t
  obtain ⟨p, hp⟩ := Told.greatest_at t.least
  rw [Told.T_least, ← rd_tvals d t p h] at hp
  have h1 := lmax_ge (rd_mem d _ p hl)
  obtain ⟨q, hq⟩ := mem_rd d _ _ hl (lmax_mem (ne_of_pow hl))
  have h2 := Told.le_greatest t.least q
  rw [Told.T_least, ← rd_tvals d t q h, hq] at h2
  omega
end Fk

/-! told parts in the logic; comprehensions over lists of ints -/
namespace Fk
open PySem L2
namespace Told
def dat : Told → PyData
  | num i => .int i
  | node a l r => .tuple [.int a, l.dat, r.dat]
theorem dat_depth : ∀ t : Told, t.dat.depth = t.depth
  | num _ => by simp [dat, PyData.depth, depth]
  | node _ l r => by simp [dat, PyData.depth, PyData.depthAll, depth, dat_depth l, dat_depth r]
theorem dat_lay : ∀ t : Told, t.dat.canLay0 = true
  | num _ => by simp [dat, PyData.canLay0]
  | node _ l r => by simp [dat, PyData.canLay0, PyData.canLayAll0, dat_lay l, dat_lay r]
theorem shaped {t : Told} (h : t.depth ≤ 64) : SeqAt.shaped t.dat = true := by
  unfold SeqAt.shaped
  rw [dat_lay, dat_depth, decide_eq_true h]
  rfl
theorem eqv : ∀ a b : Told, PyData.eqv a.dat b.dat = decide (a = b)
  | num a, num b => by simp only [dat, PyData.eqv, num.injEq, Bool.beq_eq_decide_eq]
  | num a, node _ l r => by simp [dat, PyData.eqv]
  | node _ l r, num a => by simp [dat, PyData.eqv]
  | node a l r, node a' l' r' => by
    simp only [dat, PyData.eqv, PyData.eqvAll, eqv l l', eqv r r', node.injEq, Bool.and_true]
    by_cases h0 : a = a' <;> by_cases h1 : l = l' <;> by_cases h2 : r = r' <;> simp [h0, h1, h2]
def th : Told → Th
  | num i => .int i
  | node a l r => .tri (.int a) l.th r.th
theorem th_depth : ∀ t : Told, t.th.depth = t.depth
  | num _ => rfl
  | node _ l r => by simp [Told.th, Th.depth, Told.depth, th_depth l, th_depth r]
end Told
def ToldP : Told → V → Hp → Prop
  | .num i, v, _ => v = .int i
  | .node a l r, v, H => ∃ b vl vr, v = .ref b ∧ H b = some (.tup [.int a, vl, vr]) ∧ ToldP l vl H ∧ ToldP r vr H
theorem ToldP.up : ∀ {t : Told} {v : V} {H H' : Hp}, Same H H' → ToldP t v H → ToldP t v H'
  | .num _, _, _, _, _, h => h
  | .node _ _ _, _, _, _, s, ⟨a, vl, vr, e, h, hl, hr⟩ => ⟨a, vl, vr, e, s _ _ h, ToldP.up s hl, ToldP.up s hr⟩
def toldR (t : Told) : Rel := ⟨ToldP t, fun s h => h.up s⟩
theorem told_dat {K : PySem.W.Frag} : ∀ (t : Told), DatIs K (toldR t) t.dat
  | .num b, v, H, h => by
    cases h
    exact .int _
  | .node a l r, v, H, h => by
    obtain ⟨b, vl, vr, rfl, h, hl, hr⟩ := h
    exact .tup (SqT.of h) (.cons (.int a) (.cons (told_dat l _ _ hl) (.cons (told_dat r _ _ hr) .nil)))
theorem le_told {a b : Told} (h : a = b) : (toldR a).le (toldR b) := by subst h; exact Rel.le.refl _
theorem le_tnum {i : Int} : (intR i).le (toldR (.num i)) := fun _ _ h => h
theorem le_numI {i : Int} : (toldR (.num i)).le (intR i) := fun _ _ h => h
theorem le_toldT {Ra Rb Rc : Rel} {a : Int} {l r : Told} (ha : Ra.le (intR a)) (hb : Rb.le (toldR l)) (hc : Rc.le (toldR r)) : (tupR [Ra, Rb, Rc]).le (toldR (.node a l r)) := fun v H h => by
  obtain ⟨p, vs, rfl, h, hs⟩ := h
  obtain ⟨va, vl, vr, rfl, h1, h2, h3⟩ := hs.three
  have e : va = V.int a := ha _ _ h1
  subst e
  exact ⟨p, vl, vr, rfl, h, hb _ _ h2, hc _ _ h3⟩
theorem told_tup {a : Int} {l r : Told} : (toldR (.node a l r)).le (tupR [intR a, toldR l, toldR r]) := fun v H h => by
  obtain ⟨p, vl, vr, rfl, h, hl, hr⟩ := h
  exact ⟨p, [.int a, vl, vr], rfl, h, rfl, hl, hr, trivial⟩
theorem Told.th_P : ∀ (t : Told) (v : V) (H : Hp), ThP t.th v H ↔ ToldP t v H
  | .num _, _, _ => Iff.rfl
  | .node a l r, v, H => by
    constructor
    · rintro ⟨p, vb, vl, vr, e, h, hb, hl, hr⟩
      have e2 : vb = V.int a := hb
      subst e2
      exact ⟨p, vl, vr, e, h, (Told.th_P l _ _).mp hl, (Told.th_P r _ _).mp hr⟩
    · rintro ⟨p, vl, vr, e, h, hl, hr⟩
      exact ⟨p, .int a, vl, vr, e, h, rfl, (Told.th_P l _ _).mpr hl, (Told.th_P r _ _).mpr hr⟩
theorem th_told {t : Told} : (thR t.th).le (toldR t) := fun v H h => (t.th_P v H).mp h
theorem told_th {t : Told} : (toldR t).le (thR t.th) := fun v H h => (t.th_P v H).mpr h
section
variable {X : Cx} {t s l r : Told} {a i j : Int}
theorem ix_toldA : IxOk X (toldR (.node a l r)) (intR 0) (intR a) := (ix_tupR (Rs := [intR a, toldR l, toldR r]) (n := 0) rfl rfl).le told_tup
theorem ix_toldL : IxOk X (toldR (.node a l r)) (intR 1) (toldR l) := (ix_tupR (Rs := [intR a, toldR l, toldR r]) (n := 1) rfl rfl).le told_tup
theorem ix_toldR : IxOk X (toldR (.node a l r)) (intR 2) (toldR r) := (ix_tupR (Rs := [intR a, toldR l, toldR r]) (n := 2) rfl rfl).le told_tup
theorem ty_told {K : PySem.W.Frag} (t : Told) : TyIs K (toldR t) (if t.isNode then "tuple" else "int") := by
  cases t with
  | num b => exact fun v H h => by cases h; exact .base (.int _)
  | node a l r => exact fun v H h => by obtain ⟨p, vl, vr, rfl, h, _⟩ := h; exact .base (.tup h)
theorem isi_told_tup (hm : X.mg "isinstance" = none) : CallB X "isinstance" [toldR t, tyR "tuple"] (blR t.isNode) := by
  refine cb_isi hm (ty_told t) ?_
  cases t with
  | num b => exact kb_int_tuple
  | node a l r => exact kb_tuple_tuple
theorem isi_int_tup (hm : X.mg "isinstance" = none) : CallB X "isinstance" [intR i, tyR "tuple"] (blR false) := cb_isi hm ty_int kb_int_tuple
theorem eq_told (hu : X.A.units + 64 < cLine) (ha : s.depth ≤ 64) (hb : t.depth ≤ 64) : Op2 X (compareOp .Eq) (toldR s) (toldR t) (blR (decide (s = t))) := o_eqD hu (told_dat s) (told_dat t) (Told.shaped ha) (Told.shaped hb) (Told.eqv s t)
theorem ne_told (hu : X.A.units + 64 < cLine) (ha : s.depth ≤ 64) (hb : t.depth ≤ 64) : Op2 X (compareOp .NotEq) (toldR s) (toldR t) (blR (!decide (s = t))) := o_neD hu (told_dat s) (told_dat t) (Told.shaped ha) (Told.shaped hb) (Told.eqv s t)
theorem eq_toldI (hu : X.A.units + 64 < cLine) (ha : s.depth ≤ 64) : Op2 X (compareOp .Eq) (toldR s) (intR i) (blR (decide (s = .num i))) := (eq_told hu ha (Nat.zero_le _)).le (.refl _) le_tnum
theorem o_addIT : Op2 X (binaryOp .Add) (intR i) (toldR (.num j)) (intR (i + j)) := o_add.le (.refl _) le_numI
theorem o_addTI : Op2 X (binaryOp .Add) (toldR (.num i)) (intR j) (intR (i + j)) := o_add.le le_numI (.refl _)
theorem o_leIT : Op2 X (compareOp .LtE) (intR i) (toldR (.num j)) (blR (decide (i ≤ j))) := o_le.le (.refl _) le_numI
theorem o_leTI : Op2 X (compareOp .LtE) (toldR (.num i)) (intR j) (blR (decide (i ≤ j))) := o_le.le le_numI (.refl _)
theorem cb_max2T (hm : X.mg "max" = none) (hc : X.calm = true) : CallB X "max" [toldR (.num i), toldR (.num j)] (intR (max i j)) := (cb_max2 hm hc).le (.cons le_numI (.cons le_numI .nil))
/-- one of two numbers -/
theorem ix_two {k : Int} (h0 : 0 ≤ k) (h1 : k ≤ 1) : IxOk X (lstR [intR i, intR j]) (intR k) (intR (if k = 0 then i else j)) := by
  have h : k = 0 ∨ k = 1 := by omega
  rcases h with rfl | rfl
  · exact ix_lstR (n := 0) rfl rfl
  · exact ix_lstR (n := 1) rfl rfl
end
/-! ### [e for x in a list of ints] -/
def blkB (N : List Str) (sc scope : Scope) (own : List (Str × Nat)) : Bool :=
  decide (scope.kind = .function) && (scope.names.all fun y => decide (scope.names.lookup y.1 = some y.2)) && (own.all fun p => decide (N[p.2]? = some p.1)) &&
  (scope.names.all fun y => decide (y.2 = .free → sc.names.lookup y.1 = some .cell ∨ sc.names.lookup y.1 = some .free)) &&
  (scope.names.all fun y => decide (y.2 = .local ∨ y.2 = .cell → y.1 ∈ own.map (·.1) ∨ y.1 ∉ N))
theorem blk_of {X : Cx} {N : List Str} {sc scope : Scope} {own : List (Str × Nat)} (hN : X.N = N) (hs : X.env.scope = sc) (h : blkB N sc scope own = true) : BlkOk X.N X.env.scope scope own := by
  subst hN hs
  unfold blkB at h
  simp only [Bool.and_eq_true, List.all_eq_true, decide_eq_true_eq] at h
  exact ⟨h.1.1.1.1, h.1.1.1.2, h.1.1.2, h.1.2, h.2⟩
section
variable {X : Cx} {H0 : Hp} {G Gb : Ctx} {G' : Option Ctx} {Rr : Rel} {iter elt : Expr} {x y : Str} {scope : Scope} {pos px py spos : Pos} {ns : List Int} {f : Int → Int} {i : Nat} {G1 : Int → Ctx} {Gs : Ctx} {j : Nat} {sts : List Stmt}
theorem CtxBlk.own_eq {scope : Scope} {own own' : List (Str × Nat)} (e : own.map (·.1) = own'.map (·.1)) {C C' : Ctx} (h : CtxBlk scope own C C') : CtxBlk scope own' C C' := by
  induction h with
  | nil => exact .nil
  | some hv ho _ ih => exact .some hv (e ▸ ho) ih
  | none _ ih => exact .none ih
theorem ints_map {ns : List Int} {f : Int → Int} : intsR (ns.map f) = lstR (ns.map fun n => intR (f n)) := by
  show lstR ((ns.map f).map intR) = _
  rw [List.map_map]
  rfl
theorem ev_lcI (B : Body X) (hG : CtxBlk scope [(x, 0)] G Gb) (c : ∀ n, SetCtx x (some (intR n)) Gb (G1 n) i) (ok : BlkOk X.N X.env.scope scope [(x, i)]) (hx : scope.names.lookup x = some .local) (he : Ev X H0 G iter (intsR ns)) (hl : ns.length ≤ sizeLine)
    (hb : ∀ n ∈ ns, ∀ X', InBlk X X' scope → Ev X' H0 (G1 n) elt (intR (f n))) (hs : ∀ x, foldedSetIterable iter X.env x = pure x) : Ev X H0 G (.ListComp elt [⟨.Name x px, iter, [], 0⟩] scope pos) (intsR (ns.map f)) := by
  have q := ev_lc (tg := .Name x px) (iter := iter) (xs := ns) (R := intR) (S := fun n => intR (f n)) (fun _ => true) (elt := elt) (ifs := []) (pos := pos) B.calm B.nd (pv_lst he) hl ok (CtxBlk.own_eq (own := [(x, 0)]) (own' := [(x, i)]) rfl hG) (fun n hn => ⟨G1 n, [i], fun k hk => by simpa using hk, fun X' b => gv_name (b.sto hx) (by rw [b.N]; exact B.nd) (c n), fun X' b => .nil, fun _ X' b => hb n hn X' b⟩) hs
  rw [List.filter_eq_self.mpr fun _ _ => rfl] at q
  rw [ints_map]
  exact q
theorem bv_setLcI (B : Body X) (hG : CtxBlk scope [(x, 0)] G Gb) (c : ∀ n, SetCtx x (some (intR n)) Gb (G1 n) i) (ok : BlkOk X.N X.env.scope scope [(x, i)]) (hx : scope.names.lookup x = some .local) (he : Ev X H0 G iter (intsR ns)) (hl : ns.length ≤ sizeLine)
    (hb : ∀ n ∈ ns, ∀ X', InBlk X X' scope → Ev X' H0 (G1 n) elt (intR (f n))) (cs : SetCtx y (some (intsR (ns.map f))) G Gs j) (h2 : Bv X H0 Gs sts G' Rr) (hyl : X.env.scope.names.lookup y = some .local)
    (hk : X.env.scope.kind = .function) (hln : (py.line == pos.line) = true) (hany : (scope.names.any fun (n, k) => n == y && (k == .local || k == .cell)) = false) (hs : ∀ x, foldedSetIterable iter X.env x = pure x) : Bv X H0 G (.Assign [.Name y py] (.ListComp elt [⟨.Name x px, iter, [], 0⟩] scope pos) spos :: sts) G' Rr := by
  refine bv_setLc (tg := .Name x px) (iter := iter) (xs := ns) (R := intR) (S := fun n => intR (f n)) (G1 := Gs) (i := j) (fun _ => true) (elt := elt) (ifs := []) (pos := pos) B (pv_lst he) hl ok (CtxBlk.own_eq (own := [(x, 0)]) (own' := [(x, i)]) rfl hG) (fun n hn => ⟨G1 n, [i], fun k hk => by simpa using hk, fun X' b => gv_name (b.sto hx) (by rw [b.N]; exact B.nd) (c n), fun X' b => .nil, fun _ X' b => hb n hn X' b⟩) ?_ h2 hyl (sw_true hk hyl hln hany) hs
  rw [List.filter_eq_self.mpr fun _ _ => rfl]
  rw [ints_map] at cs
  exact cs
theorem kind_of {sc : Scope} (hs : X.env.scope = sc) (h : sc.kind = .function) : X.env.scope.kind = .function := by rw [hs]; exact h
theorem lc_local {sc : Scope} (hs : X.env.scope = sc) (h : sc.names.lookup y = some .local) : X.env.scope.names.lookup y = some .local := by rw [hs]; exact h
end
end Fk

/-! zip with a target of one name: the pair that was given out stays in hand, or is gone -/
namespace PySem
section
variable {prog : Program} {w : World} {A : Around} {E : Value → Shared → Prop} {s : Shared}
/-- a zip with any first field -/
abbrev ZipAny (h : Heap) (z TI TO : Addr) (v : Value) (f : Bool) : Prop :=
  h.get? z = some { cls := .type "zip", dict := none, data := .fields #[v, .bool f, .bool false, .ref TI, .ref TO], slots := #[] }
theorem free_dead {z TI TO T : Addr} {f : Bool} {Q : Bool → Shared → Prop} (hz : ZipAny s.heap z TI TO (rawInt T) f) (hT : s.heap.get? T = none) (h : Q true s) : wpAny (model prog w) A (Builtin.SmallTypes.ownedTupleIsFree (.ref z)) Q E s := by
  unfold Builtin.SmallTypes.ownedTupleIsFree
  refine wpAny_bind (wpAny_field hz rfl (x := rawInt T) rfl ?_)
  show wpAny _ _ (loadIfAlive ((T : Int).toNat) >>= _) _ _ _
  rw [Int.toNat_natCast]
  refine wpAny_bind ?_
  have q : wpAny (model prog w) A ((if (none : Option Obj).isNone = true then pure true else (do
      if (← field (.ref z) 1) != .bool true then setField (.ref z) 1 (.bool true)
      return false)) : Sem Bool) Q E s := by
    simp only [Option.isNone_none, if_true]
    exact wpAny_pure h
  rw [← hT] at q
  exact fun _ _ _ => q
theorem dead_next_item {z TI TO T i1 i2 l1 l2 : Addr} {f : Bool} {k1 k2 : Nat} {xs ys : Array Value} {x y a b : Value} {Q : Value → Shared → Prop} (D : ZipApart z TI TO i1 i2 l1 l2)
    (hz : ZipAny s.heap z TI TO (rawInt T) f) (hT : s.heap.get? T = none) (hTI : IsPair s.heap TI (.ref i1) (.ref i2)) (hTO : IsPair s.heap TO a b)
    (h1 : s.heap.IsListIter i1 l1 k1) (h2 : s.heap.IsListIter i2 l2 k2) (hl1 : s.heap.IsList l1 xs) (hl2 : s.heap.IsList l2 ys) (hx : xs[k1]? = some x) (hy : ys[k2]? = some y)
    (hQ : ∀ h', ZipAny h' z TI TO (rawInt s.heap.objs.size) false → IsPair h' TO x y → h'.IsListIter i1 l1 (k1 + 1) → h'.IsListIter i2 l2 (k2 + 1) → IsPair h' s.heap.objs.size x y → h'.objs.size = s.heap.objs.size + 1 →
      (∀ c o, c ≠ z → c ≠ TO → c ≠ i1 → c ≠ i2 → s.heap.get? c = some o → h'.get? c = some o) → Q (.ref s.heap.objs.size) { s with heap := h' }) :
    wpAny (model prog w) A (Builtin.«zip.__next__» ⟨[.ref z], []⟩) (fun fin s' => ∃ v, fin = .done (.ret v) ∧ Q v s') E s := by
  show wpAny _ _ (field (.ref z) 2 >>= _) _ _ _
  refine wpAny_bind (wpAny_field hz rfl (x := .bool false) rfl ?_)
  show wpAny _ _ (field (.ref z) 3 >>= _) _ _ _
  refine wpAny_bind (wpAny_field hz rfl (x := .ref TI) rfl ?_)
  refine wpAny_bind (wpAny_seqItems hTI rfl ?_)
  refine wpAny_bind (free_dead hz hT ?_)
  simp only [if_true]
  refine wpAny_bind (wpAny_rule ?_)
  refine wpAny_bind (wpAny_field hz rfl (x := .ref TO) rfl ?_)
  refine wpAny_bind (wpAny_setField_rec hz (by simp) fun g1 z1 s1 => ?_)
  replace z1 : ZipAny g1 z TI TO .ellipsis f := z1
  refine wpAny_bind ?_
  simp only [List.zipIdx_cons, List.zipIdx_nil, List.forIn_cons, List.forIn_nil]
  -- the first of the pair
  refine wpAny_bind (wpAny_bind (wpAny_onRaise ?_))
  show wpAny _ _ (Builtin.SmallTypes.nextOf (.ref i1) >>= _) _ _ _
  refine wpAny_bind (wpAny_nextOf_list_item (h1.extBut s1.extBut D.i1z) (hl1.extBut s1.extBut D.l1z) hx fun g2 a2 s2 => wpAny_pure ?_)
  have t2 : IsPair g2 TO a b := s2.extBut _ _ D.TOi1 (s1.extBut _ _ D.TOz hTO)
  refine wpAny_bind (wpAny_seqItems t2 rfl (wpAny_bind (wpAny_updateSeq_pair t2 fun g3 t3 s3 => ?_)))
  replace t3 : IsPair g3 TO x b := t3
  refine wpAny_bind (wpAny_letGo (wpAny_pure ?_))
  -- the second
  refine wpAny_bind (wpAny_bind (wpAny_onRaise ?_))
  show wpAny _ _ (Builtin.SmallTypes.nextOf (.ref i2) >>= _) _ _ _
  refine wpAny_bind (wpAny_nextOf_list_item (((h2.extBut s1.extBut D.i2z).extBut s2.extBut D.i12.symm).extBut s3.extBut D.TOi2.symm) (((hl2.extBut s1.extBut D.l2z).extBut s2.extBut D.l2i1).extBut s3.extBut D.l2TO) hy fun g4 a4 s4 => wpAny_pure ?_)
  have t4 : IsPair g4 TO x b := s4.extBut _ _ D.TOi2 t3
  refine wpAny_bind (wpAny_seqItems t4 rfl (wpAny_bind (wpAny_updateSeq_pair t4 fun g5 t5 s5 => ?_)))
  replace t5 : IsPair g5 TO x y := t5
  refine wpAny_bind (wpAny_letGo (wpAny_pure (wpAny_pure ?_)))
  -- the new pair
  refine wpAny_bind (wpAny_seqItems t5 rfl (wpAny_bind (wpAny_newTuple ?_)))
  have hsz : g5.objs.size = s.heap.objs.size := by rw [s5.1, s4.1, s3.1, s2.1, s1.1]
  have z5 : ZipAny g5 z TI TO .ellipsis f := s5.extBut _ _ D.TOz.symm (s4.extBut _ _ D.i2z.symm (s3.extBut _ _ D.TOz.symm (s2.extBut _ _ D.i1z.symm z1)))
  have kp : ∀ c o, c ≠ z → c ≠ TO → c ≠ i1 → c ≠ i2 → s.heap.get? c = some o → g5.get? c = some o := fun c o c1 c2 c3 c4 e =>
    s5.extBut _ _ c2 (s4.extBut _ _ c4 (s3.extBut _ _ c2 (s2.extBut _ _ c3 (s1.extBut _ _ c1 e))))
  have a5 : g5.IsListIter i1 l1 (k1 + 1) := ((a2.extBut s3.extBut D.TOi1.symm).extBut s4.extBut D.i12).extBut s5.extBut D.TOi1.symm
  have b5 : g5.IsListIter i2 l2 (k2 + 1) := a4.extBut s5.extBut D.TOi2.symm
  have zlt : z < g5.objs.size := Heap.lt_size z5
  show wpAny _ _ (Builtin.SmallTypes.ownedTupleHandOut (.ref z) (.ref g5.objs.size) >>= _) _ _ _
  refine wpAny_bind ?_
  unfold Builtin.SmallTypes.ownedTupleHandOut
  have z6 : ZipAny (g5.push { cls := .type "tuple", data := .seq #[x, y] }) z TI TO .ellipsis f := Heap.get?_push_of_some _ z5
  refine wpAny_bind (wpAny_setField_rec z6 (by simp) fun g7 z7 s7 => ?_)
  replace z7 : ZipAny g7 z TI TO (rawInt g5.objs.size) f := z7
  refine wpAny_setField_rec z7 (by simp) fun g8 z8 s8 => ?_
  replace z8 : ZipAny g8 z TI TO (rawInt g5.objs.size) false := z8
  have up : ∀ c o, c ≠ z → g5.get? c = some o → g8.get? c = some o := fun c o c1 e => s8.extBut _ _ c1 (s7.extBut _ _ c1 (Heap.get?_push_of_some _ e))
  have T8 : IsPair g8 g5.objs.size x y := s8.extBut _ _ (Nat.ne_of_gt zlt) (s7.extBut _ _ (Nat.ne_of_gt zlt) (Heap.get?_push_size _ rfl))
  have n8 : g8.objs.size = g5.objs.size + 1 := by rw [s8.1, s7.1, Heap.size_push]
  rw [hsz] at z8 T8 n8
  refine wpAny_pure ⟨_, rfl, ?_⟩
  show Q (.ref g5.objs.size) _
  rw [hsz]
  exact hQ g8 z8 (up _ _ D.TOz t5) (a5.at fun o e => up _ o D.i1z e) (b5.at fun o e => up _ o D.i2z e) T8 n8 fun c o c1 c2 c3 c4 e => up c o c1 (kp c o c1 c2 c3 c4 e)
theorem dead_pyNext_item {z TI TO T i1 i2 l1 l2 : Addr} {f : Bool} {k1 k2 : Nat} {xs ys : Array Value} {x y a b : Value} {Q : Option Value → Shared → Prop} (D : ZipApart z TI TO i1 i2 l1 l2)
    (hz : ZipAny s.heap z TI TO (rawInt T) f) (hT : s.heap.get? T = none) (hTI : IsPair s.heap TI (.ref i1) (.ref i2)) (hTO : IsPair s.heap TO a b)
    (h1 : s.heap.IsListIter i1 l1 k1) (h2 : s.heap.IsListIter i2 l2 k2) (hl1 : s.heap.IsList l1 xs) (hl2 : s.heap.IsList l2 ys) (hx : xs[k1]? = some x) (hy : ys[k2]? = some y)
    (hQ : ∀ h', ZipAny h' z TI TO (rawInt s.heap.objs.size) false → IsPair h' TO x y → h'.IsListIter i1 l1 (k1 + 1) → h'.IsListIter i2 l2 (k2 + 1) → IsPair h' s.heap.objs.size x y → h'.objs.size = s.heap.objs.size + 1 →
      (∀ c o, c ≠ z → c ≠ TO → c ≠ i1 → c ≠ i2 → s.heap.get? c = some o → h'.get? c = some o) → Q (some (.ref s.heap.objs.size)) { s with heap := h' }) :
    wpAny (model prog w) A (pyNext (.ref z)) Q E s := by
  have hTy : s.TypeIs (.ref z) "zip" := ⟨_, hz, rfl⟩
  unfold pyNext
  exact wpAny_bind (wpAny_attempt (wpAny_callSpecial?_slot (name := Str.ofString "__next__") hTy F.slot_zip_next
    (wpAny_call_entry F.slot_zip_next hTy F.entry_zip_next
      (dead_next_item D hz hT hTI hTO h1 h2 hl1 hl2 hx hy fun h' a1 a2 a3 a4 a5 a6 a7 => wpAny_pure (hQ h' a1 a2 a3 a4 a5 a6 a7)) (F.args_zip_next_1 _))))
theorem dead_next_end {z TI TO T i1 i2 l1 l2 : Addr} {f : Bool} {k1 k2 : Nat} {xs ys : Array Value} {a b : Value} {Q : Fin → Shared → Prop} (hh : A.handled = none) (D : ZipApart z TI TO i1 i2 l1 l2)
    (hz : ZipAny s.heap z TI TO (rawInt T) f) (hT : s.heap.get? T = none) (hTI : IsPair s.heap TI (.ref i1) (.ref i2)) (hTO : IsPair s.heap TO a b)
    (h1 : s.heap.IsListIter i1 l1 k1) (h2 : s.heap.IsListIter i2 l2 k2) (hl1 : s.heap.IsList l1 xs) (hl2 : s.heap.IsList l2 ys) (hend : xs[k1]? = none ∨ ys[k2]? = none)
    (hE : ∀ h' e, (∀ c o, c ≠ z → c ≠ TO → c ≠ i1 → c ≠ i2 → s.heap.get? c = some o → h'.get? c = some o) → (∃ o, h'.get? e = some o ∧ o.cls = .type "StopIteration") → E (.ref e) { s with heap := h' }) :
    wpAny (model prog w) A (Builtin.«zip.__next__» ⟨[.ref z], []⟩) Q E s := by
  show wpAny _ _ (field (.ref z) 2 >>= _) _ _ _
  refine wpAny_bind (wpAny_field hz rfl (x := .bool false) rfl ?_)
  show wpAny _ _ (field (.ref z) 3 >>= _) _ _ _
  refine wpAny_bind (wpAny_field hz rfl (x := .ref TI) rfl ?_)
  refine wpAny_bind (wpAny_seqItems hTI rfl ?_)
  refine wpAny_bind (free_dead hz hT ?_)
  simp only [if_true]
  refine wpAny_bind (wpAny_rule ?_)
  refine wpAny_bind (wpAny_field hz rfl (x := .ref TO) rfl ?_)
  refine wpAny_bind (wpAny_setField_rec hz (by simp) fun g1 z1 s1 => ?_)
  replace z1 : ZipAny g1 z TI TO .ellipsis f := z1
  refine wpAny_bind ?_
  simp only [List.zipIdx_cons, List.zipIdx_nil, List.forIn_cons, List.forIn_nil]
  refine wpAny_bind (wpAny_bind (wpAny_onRaise ?_))
  show wpAny _ _ (Builtin.SmallTypes.nextOf (.ref i1) >>= _) _ _ _
  cases hx : xs[k1]? with
  | none =>
    refine wpAny_bind (wpAny_nextOf_list_end hh (h1.extBut s1.extBut D.i1z) (hl1.extBut s1.extBut D.l1z) hx fun g2 e s2 he => ?_)
    obtain ⟨oe, hoe, hce⟩ := he
    have z2 : ZipAny g2 z TI TO .ellipsis f := s2 _ _ D.i1z.symm z1
    have hez : e ≠ z := fun x => by subst x; rw [z2] at hoe; cases hoe; simp at hce
    exact wpAny_setField_rec z2 (by simp) fun g3 _ s3 => hE g3 e (fun c o c1 _ c3 _ x => s3.extBut _ _ c1 (s2 _ _ c3 (s1.extBut _ _ c1 x))) ⟨oe, s3.extBut _ _ hez hoe, hce⟩
  | some x =>
    have hy : ys[k2]? = none := by rcases hend with h | h; rw [hx] at h; cases h; exact h
    refine wpAny_bind (wpAny_nextOf_list_item (h1.extBut s1.extBut D.i1z) (hl1.extBut s1.extBut D.l1z) hx fun g2 a2 s2 => wpAny_pure ?_)
    have t2 : IsPair g2 TO a b := s2.extBut _ _ D.TOi1 (s1.extBut _ _ D.TOz hTO)
    refine wpAny_bind (wpAny_seqItems t2 rfl (wpAny_bind (wpAny_updateSeq_pair t2 fun g3 t3 s3 => ?_)))
    refine wpAny_bind (wpAny_letGo (wpAny_pure ?_))
    refine wpAny_bind (wpAny_bind (wpAny_onRaise ?_))
    show wpAny _ _ (Builtin.SmallTypes.nextOf (.ref i2) >>= _) _ _ _
    refine wpAny_bind (wpAny_nextOf_list_end hh (((h2.extBut s1.extBut D.i2z).extBut s2.extBut D.i12.symm).extBut s3.extBut D.TOi2.symm) (((hl2.extBut s1.extBut D.l2z).extBut s2.extBut D.l2i1).extBut s3.extBut D.l2TO) hy fun g4 e s4 he => ?_)
    obtain ⟨oe, hoe, hce⟩ := he
    have z4 : ZipAny g4 z TI TO .ellipsis f := s4 _ _ D.i2z.symm (s3.extBut _ _ D.TOz.symm (s2.extBut _ _ D.i1z.symm z1))
    have hez : e ≠ z := fun x => by subst x; rw [z4] at hoe; cases hoe; simp at hce
    exact wpAny_setField_rec z4 (by simp) fun g5 _ s5 => hE g5 e (fun c o c1 c2 c3 c4 x => s5.extBut _ _ c1 (s4 _ _ c4 (s3.extBut _ _ c2 (s2.extBut _ _ c3 (s1.extBut _ _ c1 x))))) ⟨oe, s5.extBut _ _ hez hoe, hce⟩
theorem dead_pyNext_end {z TI TO T i1 i2 l1 l2 : Addr} {f : Bool} {k1 k2 : Nat} {xs ys : Array Value} {a b : Value} {Q : Option Value → Shared → Prop} (hh : A.handled = none) (D : ZipApart z TI TO i1 i2 l1 l2)
    (hz : ZipAny s.heap z TI TO (rawInt T) f) (hT : s.heap.get? T = none) (hTI : IsPair s.heap TI (.ref i1) (.ref i2)) (hTO : IsPair s.heap TO a b)
    (h1 : s.heap.IsListIter i1 l1 k1) (h2 : s.heap.IsListIter i2 l2 k2) (hl1 : s.heap.IsList l1 xs) (hl2 : s.heap.IsList l2 ys) (hend : xs[k1]? = none ∨ ys[k2]? = none)
    (hQ : ∀ h', (∀ c o, c ≠ z → c ≠ TO → c ≠ i1 → c ≠ i2 → s.heap.get? c = some o → h'.get? c = some o) → Q none { s with heap := h' }) : wpAny (model prog w) A (pyNext (.ref z)) Q E s := by
  have hTy : s.TypeIs (.ref z) "zip" := ⟨_, hz, rfl⟩
  unfold pyNext
  refine wpAny_bind (wpAny_attempt (wpAny_callSpecial?_slot (name := Str.ofString "__next__") hTy F.slot_zip_next
    (wpAny_call_entry F.slot_zip_next hTy F.entry_zip_next (dead_next_end hh D hz hT hTI hTO h1 h2 hl1 hl2 hend fun h' e hk he => ?_) (F.args_zip_next_1 _))))
  obtain ⟨o, ho, hc⟩ := he
  refine wpAny_bind (wpAny_isInstance (T := "StopIteration") (b := true) ⟨o, ho, hc⟩ isSubtype_stop ?_)
  exact wpAny_pure (hQ _ hk)
end
end PySem

namespace L2
open PySem PyProof.Rows
def ZipSt (h : Heap) (z TI TO : Addr) : Prop := ∃ v f, ZipAny h z TI TO v f ∧ ((v = .none ∧ f = false) ∨ ∃ T : Addr, v = rawInt T)
theorem zipN_item {P : Program} {w : World} {A : Around} {E : Value → Shared → Prop} {s : Shared} {z TI TO i1 i2 l1 l2 : Addr} {k1 k2 : Nat} {xs ys : Array Value} {x y a b : Value} {Q : Option Value → Shared → Prop} (D : ZipApart z TI TO i1 i2 l1 l2)
    (hz : ZipSt s.heap z TI TO) (hTI : IsPair s.heap TI (.ref i1) (.ref i2)) (hTO : IsPair s.heap TO a b)
    (h1 : s.heap.IsListIter i1 l1 k1) (h2 : s.heap.IsListIter i2 l2 k2) (hl1 : s.heap.IsList l1 xs) (hl2 : s.heap.IsList l2 ys) (hx : xs[k1]? = some x) (hy : ys[k2]? = some y)
    (hQ : ∀ h' a b, ZipSt h' z TI TO → IsPair h' TI (.ref i1) (.ref i2) → IsPair h' TO a b → h'.IsListIter i1 l1 (k1 + 1) → h'.IsListIter i2 l2 (k2 + 1) → IsPair h' s.heap.objs.size x y → h'.objs.size = s.heap.objs.size + 1 →
      (∀ c o, c ≠ z → c ≠ TO → c ≠ i1 → c ≠ i2 → s.heap.get? c = some o → h'.get? c = some o) → Q (some (.ref s.heap.objs.size)) { s with heap := h' }) :
    wpAny (model P w) A (pyNext (.ref z)) Q E s := by
  obtain ⟨v, f, hz, ⟨rfl, rfl⟩ | ⟨T, rfl⟩⟩ := hz
  · refine wpAny_pyNext_zip_item D hz hTI hTO h1 h2 hl1 hl2 hx hy fun h' a1 a2 a3 a4 a5 a6 hk => hQ h' _ _ ⟨_, _, a1, .inr ⟨_, rfl⟩⟩ (hk _ _ D.TIz D.TITO D.TIi1 D.TIi2 hTI) a2 a3 a4 a5 a6 hk
  · cases hT : s.heap.get? T with
    | none => exact dead_pyNext_item D hz hT hTI hTO h1 h2 hl1 hl2 hx hy fun h' a1 a2 a3 a4 a5 a6 hk => hQ h' _ _ ⟨_, _, a1, .inr ⟨_, rfl⟩⟩ (hk _ _ D.TIz D.TITO D.TIi1 D.TIi2 hTI) a2 a3 a4 a5 a6 hk
    | some oT => exact wpAny_pyNext_zip_item_held D hz hT hTI h1 h2 hl1 hl2 hx hy fun h' a1 a3 a4 a5 a6 hk => hQ h' a b ⟨_, _, a1, .inr ⟨_, rfl⟩⟩ (hk _ _ D.TIz D.TIi1 D.TIi2 hTI) (hk _ _ D.TOz D.TOi1 D.TOi2 hTO) a3 a4 a5 a6 fun c o c1 c2 c3 c4 e => hk c o c1 c3 c4 e
theorem zipN_end {P : Program} {w : World} {A : Around} {E : Value → Shared → Prop} {s : Shared} {z TI TO i1 i2 l1 l2 : Addr} {k1 k2 : Nat} {xs ys : Array Value} {a b : Value} {Q : Option Value → Shared → Prop} (hh : A.handled = none) (D : ZipApart z TI TO i1 i2 l1 l2)
    (hz : ZipSt s.heap z TI TO) (hTI : IsPair s.heap TI (.ref i1) (.ref i2)) (hTO : IsPair s.heap TO a b)
    (h1 : s.heap.IsListIter i1 l1 k1) (h2 : s.heap.IsListIter i2 l2 k2) (hl1 : s.heap.IsList l1 xs) (hl2 : s.heap.IsList l2 ys) (hend : xs[k1]? = none ∨ ys[k2]? = none)
    (hQ : ∀ h', (∀ c o, c ≠ z → c ≠ TO → c ≠ i1 → c ≠ i2 → s.heap.get? c = some o → h'.get? c = some o) → Q none { s with heap := h' }) : wpAny (model P w) A (pyNext (.ref z)) Q E s := by
  obtain ⟨v, f, hz, ⟨rfl, rfl⟩ | ⟨T, rfl⟩⟩ := hz
  · exact wpAny_pyNext_zip_end hh D hz hTI hTO h1 h2 hl1 hl2 hend hQ
  · cases hT : s.heap.get? T with
    | none => exact dead_pyNext_end hh D hz hT hTI hTO h1 h2 hl1 hl2 hend hQ
    | some oT => exact wpAny_pyNext_zip_end_held hh D hz hT hTI h1 h2 hl1 hl2 hend fun h' hk => hQ h' fun c o c1 c2 c3 c4 e => hk c o c1 c3 c4 e
theorem turn_zipN {P : Program} {w : World} {K : PySem.W.Frag} {x : Str} {px : Pos} {a b z TI TO i1 i2 : Addr} (D : ZipApart z TI TO i1 i2 a b) :
    Turn P w K (.Name x px) (Itz K a b) [z, TI, TO, i1, i2] z (fun i h => ZipSt h z TI TO ∧ IsPair h TI (.ref i1) (.ref i2) ∧ (∃ x y, IsPair h TO x y) ∧ h.IsListIter i1 a i ∧ h.IsListIter i2 b i) where
  mem := by simp
  obj := fun i h st c hc => by
    obtain ⟨⟨v, f, hz, _⟩, hTI, ⟨x, y, hTO⟩, ⟨o1, e1, _, d1⟩, ⟨o2, e2, _, d2⟩⟩ := st
    have e' : c = z ∨ c = TI ∨ c = TO ∨ c = i1 ∨ c = i2 := by simpa using hc
    rcases e' with q | q | q | q | q
    · rw [q]; exact ⟨_, hz, fun v q => nomatch q⟩
    · rw [q]; exact ⟨_, hTI, fun v q => nomatch q⟩
    · rw [q]; exact ⟨_, hTO, fun v q => nomatch q⟩
    · rw [q]; exact ⟨o1, e1, fun v q => by rw [d1] at q; cases q⟩
    · rw [q]; exact ⟨o2, e2, fun v q => by rw [d2] at q; cases q⟩
  keep := fun i h h' st k => by
    obtain ⟨⟨v, f, hz, hv⟩, hTI, ⟨x, y, hTO⟩, h1, h2⟩ := st
    exact ⟨⟨v, f, k z (by simp) _ hz, hv⟩, k TI (by simp) _ hTI, ⟨x, y, k TO (by simp) _ hTO⟩, h1.at fun o q => k i1 (by simp) o q, h2.at fun o q => k i2 (by simp) o q⟩
  item := by
    intro X hP hw hK hc i pins s σ H E I hf st hg
    subst hP hw hK
    obtain ⟨hz, hTI, ⟨x0, y0, hTO⟩, h1, h2⟩ := st
    obtain ⟨xs, ys, u0, v0, hqx, hqy, hx, hy⟩ := hg
    obtain ⟨its, rv, p, _⟩ := I.list hqx
    obtain ⟨its2, rv2, p2, _⟩ := I.list hqy
    obtain ⟨u, hu, ru⟩ := rv.get hx
    obtain ⟨u2, hu2, ru2⟩ := rv2.get hy
    have hzl : z < s.heap.objs.size := by obtain ⟨_, _, q, _⟩ := hz; exact Heap.lt_size q
    refine zipN_item D hz hTI hTO h1 h2 p.isList p2.isList (x := u) (y := u2) (by simpa using hu) (by simpa using hu2) fun h' p0 q0 z' hTI' hTO' h1' h2' hT hsz hk => ?_
    refine ⟨_, rfl, ?_⟩
    show wpAny _ _ (pure ()) _ _ _
    refine wpAny_pure ?_
    have new : ObjOk X.prog X.w (upd H s.heap.objs.size (.tup [u0, v0])) h' s.heap.objs.size (.tup [u0, v0]) :=
      ⟨by show 2 ≤ sizeLine; decide, [u, u2], .cons ru (.cons ru2 .nil), ⟨_, hT, rfl, _, rfl⟩⟩
    have I1 : Inv X pins σ (upd H s.heap.objs.size (.tup [u0, v0])) { s with heap := h' } :=
      I.turnedNew (t' := s.toks) (ch := [z, TI, TO, i1, i2]) (fun c o hb q => hk c o (fun q' => hb (by simp [q'])) (fun q' => hb (by simp [q'])) (fun q' => hb (by simp [q'])) (fun q' => hb (by simp [q'])) q) hf (Nat.le_refl _) new
    refine ⟨.ref s.heap.objs.size, _, I1, rfl, ⟨_, u0, v0, rfl, I.hok.fresh (Nat.le_refl _), rfl, fun l hl => by rw [I.list_inj hl hqx]; exact hx, fun l hl => by rw [I.list_inj hl hqy]; exact hy⟩, ⟨z', hTI', ⟨p0, q0, hTO'⟩, h1', h2'⟩, fun c hcm => ?_⟩
    have hlt : c < s.heap.objs.size := by
      have e' : c = z ∨ c = TI ∨ c = TO ∨ c = i1 ∨ c = i2 := by simpa using hcm
      rcases e' with q | q | q | q | q
      · rw [q]; exact hzl
      · rw [q]; exact Heap.lt_size hTI
      · rw [q]; exact Heap.lt_size hTO
      · rw [q]; obtain ⟨_, e1, _⟩ := h1; exact Heap.lt_size e1
      · rw [q]; obtain ⟨_, e2, _⟩ := h2; exact Heap.lt_size e2
    rw [upd_ne (Nat.ne_of_lt hlt)]
    exact (hf c hcm).1
  done := by
    intro X hP hw hK hc i pins s σ H E I hf st hg
    subst hP hw hK
    obtain ⟨hz, hTI, ⟨x0, y0, hTO⟩, h1, h2⟩ := st
    obtain ⟨xs, ys, hqx, hqy, hend⟩ := hg
    obtain ⟨its, rv, p, _⟩ := I.list hqx
    obtain ⟨its2, rv2, p2, _⟩ := I.list hqy
    have l1 := rv.length
    have l2 := rv2.length
    have he : its.toArray[i]? = none ∨ its2.toArray[i]? = none := by
      rcases hend with q | q
      · exact .inl (by simp; omega)
      · exact .inr (by simp; omega)
    exact zipN_end (I.ok.hd hc) D hz hTI hTO h1 h2 p.isList p2.isList he fun h' hk => ⟨rfl, I.turnedL (t' := s.toks) (ch := [z, TI, TO, i1, i2]) (fun c o hb q =>
      hk c o (fun q' => hb (by simp [q'])) (fun q' => hb (by simp [q'])) (fun q' => hb (by simp [q'])) (fun q' => hb (by simp [q'])) q) hf⟩
  self := fun A i s Q E st h => by
    obtain ⟨⟨v, f, hz, _⟩, _⟩ := st
    have hT : s.TypeIs (.ref z) "zip" := ⟨_, hz, rfl⟩
    refine wpAny_pyIter_slot hT F.slot_zip_iter (wpAny_call_entry F.slot_zip_iter hT F.entry_zip_iter ?_ (F.args_zip_iter_1 _))
    show wpAny _ _ (ret (.ref z)) _ _ s
    exact wpAny_pure ⟨_, rfl, "zip", _, hT, F.slot_zip_next.lookup, h⟩
theorem pi_zipN {X : Cx} {e e2 : Expr} {ta : TA} {x : Str} {px p pos : Pos} (hg : Gl X "zip") (hm : X.mg "zip" = none) (ha : PA X [e, e2] ta)
    (hs : starEach [e, e2] X.env = (false, eval e X.env) :: starEach [e2] X.env) (hpl : (backTo pos (starEach [e2] X.env)).any (·.1) = false) :
    PI X (.Name x px) (.Call (.Name "zip" p) [e, e2] [] pos) (iZip X.K ta) := by
  refine ⟨fun pins s σ H R I h => ?_⟩
  refine Call_ (ld_blt I hg hm PyProof.Rows.boot_zip (PyProof.Rows.callWith_type1 (thn (ha.run pos pins s σ H _ I h) fun us s1 ⟨vs, H1, I1, r1, q1⟩ => ?_) hs hpl))
  obtain ⟨a, b, xs, ys, ex, hqx, hqy, q⟩ := q1
  subst ex
  cases r1 with
  | cons r rr =>
    cases rr with
    | cons r' rr =>
      cases rr
      cases r
      cases r'
      obtain ⟨its, rv, p1, _⟩ := I1.list hqx
      obtain ⟨its2, rv2, p2, _⟩ := I1.list hqy
      have la : a < s1.heap.objs.size := p1.lt
      have lb : b < s1.heap.objs.size := p2.lt
      refine call_zip_2 p1.isList p2.isList fun h' hz hTI hTO h1 h2 hsz hk => wpAny_pyIter_zip hz ?_
      have I2 : Inv X pins σ H1 { s1 with heap := h' } := I1.kept (t' := s1.toks) hk
      refine ⟨s1.heap.objs.size + 4, [s1.heap.objs.size + 4, s1.heap.objs.size + 2, s1.heap.objs.size + 3, s1.heap.objs.size, s1.heap.objs.size + 1], _, _, H1, rfl, I2, turn_zipN (PySem.W.ktu_apart s1.heap.objs.size a b la lb), ⟨⟨_, _, hz, .inl ⟨rfl, rfl⟩⟩, hTI, ⟨_, _, hTO⟩, h1, h2⟩, fun c hcm => ?_, q⟩
      have e' : c = s1.heap.objs.size + 4 ∨ c = s1.heap.objs.size + 2 ∨ c = s1.heap.objs.size + 3 ∨ c = s1.heap.objs.size ∨ c = s1.heap.objs.size + 1 := by simpa using hcm
      have hle : s1.heap.objs.size ≤ c := by rcases e' with q' | q' | q' | q' | q' <;> rw [q'] <;> first | exact Nat.le_add_right _ _ | exact Nat.le_refl _
      exact I1.fpOk hle (I1.hok.fresh hle)
end L2
namespace Fk
open PySem L2
section
variable {X : Cx} {H0 : Hp} {G : Ctx} {α β : Type} {a b : Expr} {p px pos : Pos} {x : Str}
theorem pv_zipN {xs : List α} {ys : List β} {R : α → Rel} {S : β → Rel} (ha : Ev X H0 G a (sqR X.K (xs.map R))) (hb : Ev X H0 G b (sqR X.K (ys.map S))) (hm : X.mg "zip" = none) (hg : Gl X "zip")
    (hs : starEach (a :: [b]) X.env = (false, eval a X.env) :: starEach [b] X.env) (hs2 : starEach (b :: []) X.env = (false, eval b X.env) :: starEach [] X.env) (hpl : (backTo pos (starEach [b] X.env)).any (·.1) = false) :
    Pv X H0 G (.Name x px) (.Call (.Name "zip" p) [a, b] [] pos) (xs.zip ys) (fun q => tupR [R q.1, S q.2]) := by
  refine ⟨_, pi_zipN hg hm (av_cons ha (av_cons hb av_nil hs2) hs) hs hpl, fun σ H Rk g Sl q => ⟨g, Sl, fun vs H1 s1 r1 => ?_⟩⟩
  obtain ⟨v, w, rfl, ⟨a1, ws, rfl, ha1, r⟩, ⟨b1, us, rfl, hb1, r2⟩⟩ := r1.two
  have hl := r.length
  have hl2 := r2.length
  rw [List.length_map] at hl hl2
  refine ⟨a1, b1, ws, us, rfl, ha1, hb1, q _ _ s1 ⟨fun H => SqL X.K H a1 ws ∧ SqL X.K H b1 us, _, ⟨ha1, hb1⟩, fun H' s => ⟨s.seq ha1, s.seq hb1⟩, walk_zip (by rw [List.length_zip, hl, hl2]), fun i H x H' hi s y => ?_, fr_pair⟩⟩
  obtain ⟨T, x1, y1, rfl, hT, rfl, e1, e2⟩ := y
  have sn := s.trans (same_new (o := .tup [x1, y1]) hT)
  obtain ⟨c, ec, rc⟩ := args_at (r.up sn) e1
  obtain ⟨d, ed, rd⟩ := args_at (r2.up sn) e2
  exact ⟨same_new hT, (c, d), (List.getElem?_zip_eq_some (z := (c, d))).mpr ⟨ec, ed⟩, T, _, rfl, upd_same, rc, rd, trivial⟩
end
end Fk

namespace L2
open PySem PySem.Spec PyProof.Rows
/-- max of a tuple of two whole numbers -/
def rMaxT (K : PySem.W.Frag) : List V → Hp → VK → Prop := fun vs H Q => ∃ (a : Addr) (i j : Int), vs = [V.ref a] ∧ SqT K H a [V.int i, V.int j] ∧ Q (.int (max i j)) H
theorem cr_maxT {X : Cx} (hc : X.calm = true) (hu : X.A.units + 65 < cLine) : CallR X (.builtin "max") (rMaxT X.K) := by
  intro pins s σ H vs us Q I r h
  obtain ⟨a, i, j, rfl, hs, q⟩ := h
  obtain ⟨its, rv, hp, _⟩ := I.tuple hs
  rw [Vals.ref1 r]
  obtain ⟨as, hr⟩ := Dp.readsAll I [.int i, .int j] _ its (DpAll.cons (.int i) (.cons (.int j) .nil)) rv
  refine PySem.W.max_tuple_data (x := .int i) (xs := [.int j]) (I.ok.hd hc) hp (by simpa using hr) ⟨fun x hx y hy => ?_, fun x hx => ?_⟩ ?_ fun k v h' tk bs hi hrd hk => ?_
  · rcases List.mem_cons.mp hx with rfl | hx
    · rcases List.mem_cons.mp hy with rfl | hy
      · simp only [PySem.W.alike]
      · rw [List.mem_singleton] at hy; subst hy; simp only [PySem.W.alike]
    · rw [List.mem_singleton] at hx
      subst hx
      rcases List.mem_cons.mp hy with rfl | hy
      · simp only [PySem.W.alike]
      · rw [List.mem_singleton] at hy; subst hy; simp only [PySem.W.alike]
  · rcases List.mem_cons.mp hx with rfl | hx
    · exact fun e => nomatch e
    · rw [List.mem_singleton] at hx; subst hx; exact fun e => nomatch e
  · simp only [PyData.depthAll, PyData.depth]; omega
  · have e : PySem.W.maxD (.int i) [.int j] = .int (max i j) := PySem.W.maxD_ints i [j]
    rw [e] at hrd
    cases hrd
    exact ⟨.int _, H, I.kept hk, ⟨_, rfl⟩, q⟩
end L2
namespace Fk
open PySem L2
section
variable {X : Cx} {i j : Int}
theorem cb_maxP (hm : X.mg "max" = none) (hc : X.calm = true) (hu : X.A.units + 65 < cLine) : CallB X "max" [tupR [intR i, intR j]] (intR (max i j)) :=
  ⟨hm, _, _, cr_maxT hc hu, by decide +kernel, .inl ⟨_, rfl⟩, fun vs H Q hv q => by
    obtain ⟨v, rfl, a, ws, rfl, ha, r⟩ := hv.one
    obtain ⟨v, w, rfl, h1, h2⟩ := r.two
    cases h1
    cases h2
    exact ⟨a, i, j, rfl, SqT.of ha, q _ _ (Same.refl H) rfl⟩⟩
theorem args_bls : ∀ {bs : List Bool} {vs : List V} {H : Hp}, Args (bs.map blR) vs H → vs = bs.map V.bl
  | [], [], _, _ => rfl
  | n :: ns, v :: vs, H, h => by
    have h1 : v = V.bl n := h.1
    rw [h1, args_bls (bs := ns) (vs := vs) h.2]
    rfl
  | [], _ :: _, _, h => h.elim
  | _ :: _, [], _, h => h.elim
theorem cb_all {bs : List Bool} (hm : X.mg "all" = none) (hc : X.calm = true) : CallB X "all" [lstR (bs.map blR)] (blR (bs.all id)) :=
  ⟨hm, _, _, cr_all hc, by decide +kernel, .inl ⟨_, rfl⟩, fun vs H Q hv q => by
    obtain ⟨v, rfl, a, ws, rfl, ha, r⟩ := hv.one
    rw [args_bls r] at ha
    exact ⟨a, bs, rfl, SqL.of ha, q _ _ (Same.refl H) rfl⟩⟩
end
end Fk

namespace Fk
open PySem L2
section
variable {X : Cx} {H0 : Hp} {G Gb Gs : Ctx} {G' : Option Ctx} {Rr : Rel} {iter elt : Expr} {x y z : Str} {scope : Scope} {pos px py pz tpos spos : Pos} {i j k n : Nat} {sts : List Stmt} {α : Type} {xs : List α} {R Ra Rb S : α → Rel} {G1 G2 : α → Ctx}
theorem filt_true (xs : List α) : xs.filter (fun _ => true) = xs := List.filter_eq_self.mpr fun _ _ => rfl
/-- [e for x in ..] -/
theorem ev_lc1 (B : Body X) (hp : Pv X H0 G (.Name x px) iter xs R) (hl : xs.length ≤ sizeLine) (hG : CtxBlk scope [(x, 0)] G Gb) (c : ∀ q, SetCtx x (some (R q)) Gb (G1 q) i) (ok : BlkOk X.N X.env.scope scope [(x, i)]) (hx : scope.names.lookup x = some .local)
    (hb : ∀ q ∈ xs, ∀ X', InBlk X X' scope → Ev X' H0 (G1 q) elt (S q)) (hs : ∀ x, foldedSetIterable iter X.env x = pure x) : Ev X H0 G (.ListComp elt [⟨.Name x px, iter, [], 0⟩] scope pos) (lstR (xs.map S)) := by
  have q := ev_lc (tg := .Name x px) (iter := iter) (xs := xs) (R := R) (S := S) (fun _ => true) (elt := elt) (ifs := []) (pos := pos) B.calm B.nd hp hl ok (CtxBlk.own_eq (own := [(x, 0)]) (own' := [(x, i)]) rfl hG) (fun a ha => ⟨G1 a, [i], fun k hk => by simpa using hk, fun X' b => gv_name (b.sto hx) (by rw [b.N]; exact B.nd) (c a), fun X' b => .nil, fun _ X' b => hb a ha X' b⟩) hs
  rw [filt_true] at q
  exact q
theorem gv_two {X' : Cx} (B : Body X) (b : InBlk X X' scope) (hx : scope.names.lookup x = some .local) (hy : scope.names.lookup y = some .local) {q : α} (c1 : SetCtx x (some (Ra q)) Gb (G1 q) i) (c2 : SetCtx y (some (Rb q)) (G1 q) (G2 q) j) :
    Gv X' H0 Gb (.Tuple [.Name x px, .Name y py] n tpos) (tupR [Ra q, Rb q]) (G2 q) ([i] ++ [j]) :=
  gv_tup2 (by rw [b.calm]; exact B.calm) (gv_name (b.sto hx) (by rw [b.N]; exact B.nd) c1) (gv_name (b.sto hy) (by rw [b.N]; exact B.nd) c2) rfl rfl rfl rfl
/-- [e for x, y in ..] -/
theorem ev_lc2 (B : Body X) (hp : Pv X H0 G (.Tuple [.Name x px, .Name y py] n tpos) iter xs (fun q => tupR [Ra q, Rb q])) (hl : xs.length ≤ sizeLine) (hG : CtxBlk scope [(x, 0), (y, 0)] G Gb) (c1 : ∀ q, SetCtx x (some (Ra q)) Gb (G1 q) i) (c2 : ∀ q, SetCtx y (some (Rb q)) (G1 q) (G2 q) j)
    (ok : BlkOk X.N X.env.scope scope [(x, i), (y, j)]) (hx : scope.names.lookup x = some .local) (hy : scope.names.lookup y = some .local)
    (hb : ∀ q ∈ xs, ∀ X', InBlk X X' scope → Ev X' H0 (G2 q) elt (S q)) (hs : ∀ x, foldedSetIterable iter X.env x = pure x) : Ev X H0 G (.ListComp elt [⟨.Tuple [.Name x px, .Name y py] n tpos, iter, [], 0⟩] scope pos) (lstR (xs.map S)) := by
  have q := ev_lc (tg := .Tuple [.Name x px, .Name y py] n tpos) (iter := iter) (xs := xs) (R := fun q => tupR [Ra q, Rb q]) (S := S) (fun _ => true) (elt := elt) (ifs := []) (pos := pos) B.calm B.nd hp hl ok (CtxBlk.own_eq (own := [(x, 0), (y, 0)]) (own' := [(x, i), (y, j)]) rfl hG)
    (fun a ha => ⟨G2 a, [i] ++ [j], fun k hk => by simpa using hk, fun X' b => gv_two B b hx hy (c1 a) (c2 a), fun X' b => .nil, fun _ X' b => hb a ha X' b⟩) hs
  rw [filt_true] at q
  exact q
theorem bv_setLc2 (B : Body X) (hp : Pv X H0 G (.Tuple [.Name x px, .Name y py] n tpos) iter xs (fun q => tupR [Ra q, Rb q])) (hl : xs.length ≤ sizeLine) (hG : CtxBlk scope [(x, 0), (y, 0)] G Gb) (c1 : ∀ q, SetCtx x (some (Ra q)) Gb (G1 q) i) (c2 : ∀ q, SetCtx y (some (Rb q)) (G1 q) (G2 q) j)
    (ok : BlkOk X.N X.env.scope scope [(x, i), (y, j)]) (hx : scope.names.lookup x = some .local) (hy : scope.names.lookup y = some .local)
    (hb : ∀ q ∈ xs, ∀ X', InBlk X X' scope → Ev X' H0 (G2 q) elt (S q)) (cs : SetCtx z (some (lstR (xs.map S))) G Gs k) (h2 : Bv X H0 Gs sts G' Rr) (hyl : X.env.scope.names.lookup z = some .local)
    (hk : X.env.scope.kind = .function) (hln : (pz.line == pos.line) = true) (hany : (scope.names.any fun (n, k) => n == z && (k == .local || k == .cell)) = false) (hs : ∀ x, foldedSetIterable iter X.env x = pure x) :
    Bv X H0 G (.Assign [.Name z pz] (.ListComp elt [⟨.Tuple [.Name x px, .Name y py] n tpos, iter, [], 0⟩] scope pos) spos :: sts) G' Rr := by
  refine bv_setLc (tg := .Tuple [.Name x px, .Name y py] n tpos) (iter := iter) (xs := xs) (R := fun q => tupR [Ra q, Rb q]) (S := S) (G1 := Gs) (i := k) (fun _ => true) (elt := elt) (ifs := []) (pos := pos) B hp hl ok (CtxBlk.own_eq (own := [(x, 0), (y, 0)]) (own' := [(x, i), (y, j)]) rfl hG)
    (fun a ha => ⟨G2 a, [i] ++ [j], fun k hk => by simpa using hk, fun X' b => gv_two B b hx hy (c1 a) (c2 a), fun X' b => .nil, fun _ X' b => hb a ha X' b⟩) ?_ h2 hyl (sw_true hk hyl hln hany) hs
  rw [filt_true]
  exact cs
end
end Fk

namespace L2
open PySem PySem.Spec PyProof.Rows
/-- an exception that is kept: its class, no dict -/
def excO (a : Addr) (cls : Value) : HO := .ext fun h => ∃ oe vs, h.get? a = some oe ∧ Zc cls none oe ∧ oe.data = .fields vs
theorem Inv.addExc {X : Cx} {pins : List (Addr × Obj)} {σ : St} {H : Hp} {s : Shared} {a : Addr} {cls : Value} {oe : Obj} {vs : Array Value} (I : Inv X pins σ H s) (na : H a = none) (n0 : X.s_0.heap.get? a = none) (nL : a ≠ X.env.locals) (nc : ∀ x c, X.env.cells.lookup x = some c → c ≠ a) (np : ∀ p ∈ X.pn ++ pins, p.1 ≠ a)
    (he : s.heap.get? a = some oe) (hz : Zc cls none oe) (hd : oe.data = .fields vs) : Inv X pins σ (upd H a (excO a cls)) s := by
  have ne0 : ∀ {b o}, X.s_0.heap.get? b = some o → b ≠ a := fun {b o} e q => by rw [q, n0] at e; cases e
  have neH : ∀ {b o}, H b = some o → b ≠ a := fun {b o} e q => by rw [q, na] at e; cases e
  refine ⟨I.ok, I.os, I.bare, ⟨I.base.keep, I.base.slot, fun b o e n hx => ?_, I.base.there, fun b xs e => ?_, fun b o u e => ?_, fun b ps e => ?_⟩, I.loc, I.cell, ?_, fun x c e => ?_, fun p hp => ?_, fun b ob e => ?_, I.len⟩
  · rw [upd_ne (ne0 e)]; exact I.base.free b o e n hx
  · have q := I.base.tups b xs e
    rw [upd_ne (neH q)]; exact q
  · have q := I.base.frzs b o u e
    rw [upd_ne (neH q)]; exact q
  · obtain ⟨more, q⟩ := I.base.tbls b ps e
    exact ⟨more, by rw [upd_ne (neH q)]; exact q⟩
  · rw [upd_ne (Ne.symm nL)]; exact I.free
  · rw [upd_ne (nc x c e)]; exact I.freeC x c e
  · obtain ⟨e, n, r⟩ := I.pin p hp
    exact ⟨e, by rw [upd_ne (np p hp)]; exact n, r⟩
  · by_cases hb : b = a
    · subst hb
      rw [upd_same] at e
      cases e
      exact ⟨⟨oe, vs, he, hz, hd⟩, ⟨oe, he⟩, fun h1 h2 ⟨o1, v1, q1, q2, q3⟩ k => ⟨o1, v1, k _ q1, q2, q3⟩⟩
    · rw [upd_ne hb] at e
      exact (I.hok b ob e).stay (fun c u _ q => q) (fun c q => by rw [upd_ne (neH q)]; exact q) fun c xs q => by rw [upd_ne (neH q)]; exact q
theorem Inv.suiteK {X : Cx} {pins : List (Addr × Obj)} {σ : St} {H : Hp} {s : Shared} (I : Inv X pins σ H s) (a : Addr) : Inv (X.suite a (X.pn ++ pins)) [] σ H s :=
  ⟨I.ok.suite _ _, I.os, I.bare, I.base, I.loc, I.cell, I.free, I.freeC, fun p hp => by
    have hp' : p ∈ X.pn ++ pins := by rw [List.append_nil] at hp; exact hp
    exact I.pin p hp', I.hok, I.len⟩
theorem Inv.unsuiteK {X : Cx} {pins pn' : List (Addr × Obj)} {σ : St} {H : Hp} {s : Shared} {a : Addr} (I : Inv (X.suite a (X.pn ++ pins)) pn' σ H s) (ok : X.Ok) : Inv X pins σ H s :=
  ⟨ok, I.os, I.bare, I.base, I.loc, I.cell, I.free, I.freeC, fun p hp => I.pin p (List.mem_append_left _ hp), I.hok, I.len⟩
/-- what 'except x as n: y = n' wishes: slot i is n's, slot j is y's -/
def wKeep (K : PySem.W.Frag) (c : Value) (i j : Nat) (Wout : WX) (D : Ends) : WX := fun cls d σ H =>
  ∃ b, PySem.W.exmOne K cls c = some b ∧ (b = true → d = none ∧ ∀ a, H a = none → D.nx (((σ.set i (some (.ref a))).set j (some (.ref a))).set i none) (upd H a (excO a cls))) ∧ (b = false → Wout cls d σ H)
theorem ps_try_keep {X : Cx} {x n y : Str} {c : Value} {i j : Nat} {body : List Stmt} {np pos pos' py pn' apos : Pos} {tb : WX → TS} {Wout : WX} (hex : X.ex = []) (hs : X.stack = X.env :: X.outer) (hf : X.env.frame = some X.env.locals) (hN : X.N.Nodup) (hi : X.N[i]? = some n) (hj : X.N[j]? = some y) (hij : i ≠ j) (hln : X.env.kindOf n = some .local) (hly : X.env.scope.names.lookup y = some .local) (hnd : (n == ("__debug__" : Str)) = false) (hncd : (n == ("__classdict__" : Str)) = false) (hc : Names X x c) (tk : Takes X Wout)
    (hb : ∀ (W : WX) (pn : List (Addr × Obj)) (xe : Value → Shared → Prop), Takes (X.tr pn xe) W → PassesOwn (model X.prog X.w) X.A X.env xe → PSs (X.tr pn xe) body (tb W)) :
    PS X (.Try body [.ExceptHandler (some (.Name x np)) (some n) [.Assign [.Name y py] (.Name n pn') apos] pos'] [] [] pos) (fun D σ H => tb (wKeep X.K c i j Wout D) D σ H) := by
  refine ⟨fun pins s σ H D I h => ?_⟩
  have ok := I.ok
  have hfr : X.A.frames = some (X.env :: X.outer) := by rw [ok.frames, hs]
  have hloc : Loc X.env.scope n := .inl hln
  refine wpAny_Try_except ?_
  refine wpAny_mono ((hb (wKeep X.K c i j Wout D) (X.pn ++ pins) (fun e s₁ => wpAny (model X.prog X.w) X.A (noteFrame e X.env) (fun _ s₂ => wpAny (model X.prog X.w) X.A (setFlight e none) (fun _ s₃ =>
    wpAny (model X.prog X.w) X.A (handleBy e X.env [.ExceptHandler (some (.Name x np)) (some n) [.Assign [.Name y py] (.Name n pn') apos] pos']) (SP X pins D) X.xe s₃) X.xe s₂) X.xe s₁) (fun u s' xx => ?_) PassesOwn.looking).run [] s σ H D (I.toTry _) h) (fun f s1 hsp => ?_) (fun e s1 he => he)
  · obtain ⟨a, B, sI, pins', σ', H', cls, d, rfl, J', nb, up, sky, na, os, ag, b, hb1, hyes, hno⟩ := xx
    have J : Inv X pins σ' H' sI := J'.ofTry ok
    have sky' : Sky B (X.env :: X.outer) a (Zc cls d) X.env.locals s'.heap := by rw [← hs]; exact sky
    show wpAny (model X.prog X.w) X.A (noteFrame (.ref a) X.env) _ _ _
    refine Sky.land Zc.steady hfr hf sky' fun h3 fl3 up3 => ?_
    have J3 : Inv X pins σ' H' { s' with heap := h3 } := J.landed nb fl3.1 (up.trans up3) os ag
    obtain ⟨oe3, vs3, he3, hz3, hd3⟩ := fl3.there
    have nfr : a ∉ frs (X.env :: X.outer) := fun hm => by
      obtain ⟨_, o', e', hnf⟩ := fl3.2.2.1.mem hm
      rw [he3] at e'; cases e'
      exact hnf _ hd3
    have nL : a ≠ X.env.locals := fun z => nfr (List.mem_filterMap.mpr ⟨X.env, List.mem_cons_self, by rw [hf, z]⟩)
    have nF : a ∉ X.fs := fun hm => by
      obtain ⟨e, he, q⟩ := List.mem_filterMap.mp hm
      exact nfr (List.mem_filterMap.mpr ⟨e, List.mem_cons_of_mem _ he, q⟩)
    have aI : sI.heap.get? a = none := by
      cases q : sI.heap.get? a with
      | none => rfl
      | some o =>
        have z := nb a o q (by rw [hs]; exact nfr)
        rw [fl3.2.1] at z
        cases z
    have S3 := J3.suite he3 hd3 na nL nF
    refine wpAny_handleBy_cons (codeAny_handlers_test ?_) (by intro q; cases q)
    have LT : PySem.W.Looks (model X.prog X.w) h3 (typeOf (.ref a)) cls := fun A Q E s k q => wpAny_typeOf_ref (k _ _ he3) (by rw [hz3.1]; exact q)
    have LM := PySem.W.exm_one (M := model X.prog X.w) (J3.kIn) LT hb1
    have test : ∀ {Q : Value → Shared → Prop} {E : Value → Shared → Prop}, Q c { s' with heap := h3 } → wpAny (model X.prog X.w) (X.A.mark (some (.ref a))) (eval (.Name x np) X.env) Q E { s' with heap := h3 } := fun {Q E} q => by
      obtain ⟨hg, hdbg, hm | ⟨hm, hv, hnn⟩⟩ := hc
      · exact ld_glob (X := X.suite a ((a, oe3) :: (X.pn ++ pins))) S3 hg hm q hdbg
      · exact ld_blt (X := X.suite a ((a, oe3) :: (X.pn ++ pins))) S3 hg hm hv q hnn hdbg
    refine test (LM.here ?_)
    cases b with
    | true =>
      obtain ⟨hd0, hy2⟩ := hyes rfl
      subst hd0
      refine codeAny_handlers_suite_as ?_
      refine HandSPX.lands_againZ fl3 fun h4 fl4 up4 => ?_
      have J4 : Inv X pins σ' H' { s' with heap := h4 } := J.landed nb fl4.1 ((up.trans up3).trans up4) os ag
      obtain ⟨oe4, vs4, he4, hz4, hd4⟩ := fl4.there
      have n0 : X.s_0.heap.get? a = none := by
        cases q : X.s_0.heap.get? a with
        | none => rfl
        | some o =>
          obtain ⟨o', e⟩ := J.base.there a o q (by rw [hex]; exact List.not_mem_nil)
          rw [aI] at e
          cases e
      have K4 := J4.addExc na n0 nL (fun x c e => by
          obtain ⟨v, o, e2, _⟩ := J.cell x c e
          rintro rfl
          rw [aI] at e2
          cases e2) (fun p hp => by
          obtain ⟨e, _⟩ := J.pin p hp
          rintro rfl
          rw [aI] at e
          cases e) he4 hz4 hd4
      have S4 := K4.suiteK a
      refine store_ok (X := X.suite a (X.pn ++ pins)) (v := .ref a) S4 hN hi hloc rfl (fun s5 S5 => ?_) (.inr hln)
      have vis : Vis (X.suite a (X.pn ++ pins)).env.scope n := .inl hln
      have hlen : i < σ'.length := by
        rw [J.len]
        exact (List.getElem?_eq_some_iff.mp hi).1
      have run := pss_cons (ps_set (X := X.suite a (X.pn ++ pins)) (pos' := py) (pos := apos) hN hj (.inl hly) (pe_var (pos := pn') hi vis hnd hncd) rfl (.inr hly)) pss_nil
      refine wpAny_mono (run.run [] s5 _ _ { nx := fun σ6 H6 => D.nx (σ6.set i none) H6, rt := D.rt, bk := fun σ6 H6 => D.bk (σ6.set i none) H6, ct := fun σ6 H6 => D.ct (σ6.set i none) H6 } S5 ⟨.ref a, by rw [List.getElem?_set_self hlen], hy2 a na⟩) (fun f s6 hsp => ?_) (fun _ _ z => False.elim z)
      have end_ : ∀ {σ6 : St} {H6 : Hp} {Q : Shared → Prop}, Inv (X.suite a (X.pn ++ pins)) [] σ6 H6 s6 → (∀ s7, Inv X pins (σ6.set i none) H6 s7 → Q s7) →
          wpAny (model X.prog X.w) X.A (do bindName X.env n .none; unbindBehindTheSuite X.env n pos') (fun _ s7 => Q s7) X.xe s6 := fun {σ6 H6 Q} S6 hq => gone_ok (S6.unsuiteK ok) hN hi hln hq
      cases f with
      | next =>
        obtain ⟨σ6, H6, S6, q6⟩ := hsp
        exact end_ S6 fun s7 J7 => ⟨_, _, J7, q6⟩
      | brk =>
        obtain ⟨σ6, H6, S6, q6⟩ := hsp
        exact end_ S6 fun s7 J7 => ⟨_, _, J7, q6⟩
      | cont =>
        obtain ⟨σ6, H6, S6, q6⟩ := hsp
        exact end_ S6 fun s7 J7 => ⟨_, _, J7, q6⟩
      | ret u =>
        obtain ⟨v6, σ6, H6, S6, r6, q6⟩ := hsp
        exact end_ S6 fun s7 J7 => ⟨_, _, _, J7, r6, q6⟩
    | false =>
      show wpAny _ X.A (handleBy (.ref a) X.env []) _ _ _
      refine wpAny_handleBy_nil ?_
      obtain ⟨k1, k2, k3, oe, vs, T, oT, ts', he, hz, hd, h1, hr⟩ := id fl3
      unfold PySem.passOn
      refine wpAny_bind (wpAny_field he hd h1 ?_)
      rw [if_neg (show ¬ ((Value.ref T == Value.none) = true) from by simp)]
      have fin : wpAny (model X.prog X.w) X.A (setFlight (.ref a) X.env.frame) (fun _ s4 => wpAny (model X.prog X.w) X.A (throw (.ref a) : Sem Flow) (SP X pins D) X.xe s4) X.xe { s' with heap := h3 } := by
        rw [hf]
        refine HandSPX.setFlight_upZ fl3 fun h4 hh4 up4 => wpAny_throw (tk _ _ ?_)
        exact ⟨a, B, sI, pins, σ', H', cls, d, rfl, J, nb, (up.trans up3).trans up4, .inr (.inr (by rw [hs]; exact hh4)), na, os, ag, hno rfl⟩
      first
        | exact wpAny_bind (wpAny_pure (wpAny_bind fin))
        | exact wpAny_bind fin
  · cases f with
    | next =>
      obtain ⟨σ', H', J', q⟩ := hsp
      exact wpAny_execs_nil ⟨σ', H', J'.ofTry ok, q⟩
    | brk =>
      obtain ⟨σ', H', J', q⟩ := hsp
      exact ⟨σ', H', J'.ofTry ok, q⟩
    | cont =>
      obtain ⟨σ', H', J', q⟩ := hsp
      exact ⟨σ', H', J'.ofTry ok, q⟩
    | ret u =>
      obtain ⟨v, σ', H', J', r, q⟩ := hsp
      exact ⟨v, σ', H', J'.ofTry ok, r, q⟩
end L2

namespace Fk
open PySem L2
def falR : Rel := ⟨fun _ _ => False, fun _ h => h⟩
/-- a kept exception of the class at C -/
def excR (C : Addr) : Rel := ⟨fun v H => ∃ a, v = .ref a ∧ H a = some (excO a (.ref C)), fun s ⟨a, e, h⟩ => ⟨a, e, s _ _ h⟩⟩
theorem takes_mono {X : Cx} {W W' : WX} (tk : Takes X W) (h : ∀ cls d σ H, W' cls d σ H → W cls d σ H) : Takes X W' := fun u s' x => by
  obtain ⟨a, B, sI, pins, σ, H, cls, d, e1, e2, e3, e4, e5, e6, e7, e8, e9⟩ := x
  exact tk u s' ⟨a, B, sI, pins, σ, H, cls, d, e1, e2, e3, e4, e5, e6, e7, e8, h _ _ _ _ e9⟩
/-- an exception of C may fly from here -/
def Fly (X : Cx) (H0 : Hp) (C : Addr) : Prop := Takes X (fun cls d _ H => cls = .ref C ∧ d = none ∧ Same H0 H)
/-- a def that hands back, or raises an exception of C -/
def spE {α : Type} (args : α → List Rel) (side : α → Prop) (ok : α → Bool) (post : α → Rel) (C : Addr) : Sp := fun vs H Q E => ∃ x : α, side x ∧ Args (args x) vs H ∧ (ok x = true → ∀ v H', Same H H' → (post x).p v H' → Q v H') ∧ (ok x = false → ∀ H', Same H H' → E (.ref C) none H')
def orR (u : Bool) (R : Rel) : Rel := if u = true then R else falR
theorem orR_t {R : Rel} : orR true R = R := rfl
theorem orR_f {R : Rel} : orR false R = falR := rfl
section
variable {P : Program} {w : World} {K : PySem.W.Frag} {mg : Str → Option Value} {base : Heap}
theorem exc_fn {x : Str} {st : Stmt} {N ps : List Str} {k : Nat} {α : Type} {args : α → List Rel} {side : α → Prop} {ok : α → Bool} {post : α → Rel} {C : Addr} {f : Addr} {fd : FuncData} (F : Fun K x x st f fd) (S : FnScope N ps (defScope st)) (loc : ∀ y ∈ N, Loc (defScope st) y ∨ (defScope st).names.lookup y = none) (hl : ∀ a, (args a).length = ps.length)
    (h : ∀ (a : α) (X : Cx) (H0 : Hp), side a → Body X → (ok a = false → Fly X H0 C) → X.prog = P → X.w = w → X.K = K → X.mg = mg → X.base = base → X.env.scope = defScope st → X.N = N → Room k X.A → ∃ G', Bv X H0 (ctx0 N (args a)) (defBody st) G' (orR (ok a) (post a)) ∧ (∀ C', G' = some C' → ok a = true ∧ ∀ H, (post a).p .non H)) :
    FnOk P w K mg base (L2.CX P w) (k + 1) f fd ps (spE args side ok post C) := by
  refine F.okX S (fun vs H Q E hs => ?_) (fun cdv A outer s H vs Q E hr hs => ?_)
  · obtain ⟨a, _, ha, _⟩ := hs
    rw [ha.length, hl]
  · obtain ⟨a, hsd, ha, q, q2⟩ := hs
    have B : Body (cxOf (L2.CX P w) P w K mg base N x (defScope st) f cdv A outer s H E) := ⟨rfl, S.nd, loc, fun _ => rfl, passes_of rfl⟩
    obtain ⟨G', hB, hn⟩ := h a (cxOf (L2.CX P w) P w K mg base N x (defScope st) f cdv A outer s H E) H hsd B (fun hf => takes_mono (takes_of rfl rfl rfl rfl) fun cls d σ H' hw => by
      obtain ⟨rfl, rfl, s'⟩ := hw
      exact q2 hf H' s') rfl rfl rfl rfl rfl rfl rfl hr
    refine ⟨_, hB, Same.refl H, slots0 (fun i y hi hy => ?_) rfl ha ?_, fun C' σ' H' e s' _ => q (hn C' e).1 _ _ s' ((hn C' e).2 _), fun v H' s' r => ?_⟩
    · refine vis_of_loc (S.par y ?_)
      rw [← S.pre]
      rw [hl] at hi
      exact List.mem_of_getElem? (i := i) (by rw [List.getElem?_take, if_pos hi]; exact hy)
    · rw [hl]
      have := congrArg List.length S.pre
      rw [List.length_take] at this
      omega
    · cases ho : ok a with
      | true => rw [ho] at r; exact q ho v H' s' r
      | false => rw [ho] at r; exact r.elim
end
end Fk

namespace Fk
open PySem L2
/-- what is asked of an own class of errors -/
structure ErrC (K : PySem.W.Frag) (mg : Str → Option Value) (C : Addr) (x : Str) : Prop where
  g : mg x = some (.ref C)
  k : PySem.W.keepIn K (.ref C) = true
  q : PySem.W.excIn K C [.type "ValueError", .type "Exception", .type "BaseException", .type "object"] "ValueError.__new__" = true
  b : PySem.W.subIn K (.ref C) (.type "BaseException") = some true
  t : PySem.W.typeIn K (.ref C) = some (.type "type")
section
variable {X : Cx} {H0 : Hp} {G : Ctx} {G' : Option Ctx} {R : Rel} {C : Addr} {x m : Str} {j : Nat} {p p2 pos rpos : Pos} {sts : List Stmt} {e : Expr} {es : List Expr} {Rs' : List Rel}
theorem bv_raise (B : Body X) (hf : Fly X H0 C) (ec : ErrC X.K X.mg C x) (hg : Gl X x) (hdb : (x == ("__debug__" : Str)) = false) : Bv X H0 G (.Raise (some (.Call (.Name x p) [.Constant (.str m) j p2] [] pos)) none rpos :: sts) G' R :=
  Sv.ret (PS_imp (ps_raise B.calm hf (pmk_own PySem.F.excBase_ValueError ec.q ec.g ec.k (raises_own ec.b ec.t) hg hdb)) fun D σ H q => ⟨rfl, rfl, q.1⟩)
variable {α : Type} {args : α → List Rel} {side : α → Prop} {ok : α → Bool} {post : α → Rel} {k : Nat} {ps : List Str}
theorem passL0 {Y : Cx} : Passes (L2.CX Y.prog Y.w) Y E0 := fun pins σ H s e s' I c => by
  obtain ⟨a, B, H', cls, d, e1, e2, e3, e4, e5, e6, e7, e8⟩ := c
  exact e8.elim
theorem DefOk.atT (D : DefOk X.prog X.w X.K X.mg X.base x (L2.CX X.prog X.w) k ps [] (spE args side ok post C)) (hr : Room k X.A) (a : α) (h : side a) (ho : ok a = true) : CallOk X x (args a) (post a) := by
  obtain ⟨f, fd, dv, F, hm, hk, hb, hd⟩ := D.ex
  refine ⟨L2.CX X.prog X.w, E0, k, f, fd, ps, _, dv, [], F, hr, hm, hk, hb, hd, fun Y e1 e2 => by rw [← e1, ← e2]; exact passL0, fun vs H Q hv q => ?_⟩
  rw [List.append_nil]
  exact ⟨a, h, hv, fun _ => q, fun z => by rw [ho] at z; cases z⟩
/-- a call that raises -/
def CallF (X : Cx) (x : Str) (Rs : List Rel) (C : Addr) : Prop := ∃ (k : Nat) (f : Addr) (fd : FuncData) (ps : List Str) (sp : Sp) (ds : List Value), FnOk X.prog X.w X.K X.mg X.base (L2.CX X.prog X.w) k f fd ps sp ∧ Room k X.A ∧ X.mg x = some (.ref f) ∧ PySem.W.keepIn X.K (.ref f) = true ∧ Binds X.K fd ps ds ∧ Vals [] ds ∧
  ∀ vs H Q (E : XK), Args Rs vs H → (∀ H', Same H H' → E (.ref C) none H') → sp (vs ++ []) H Q E
theorem DefOk.atF (D : DefOk X.prog X.w X.K X.mg X.base x (L2.CX X.prog X.w) k ps [] (spE args side ok post C)) (hr : Room k X.A) (a : α) (h : side a) (ho : ok a = false) : CallF X x (args a) C := by
  obtain ⟨f, fd, dv, F, hm, hk, hb, hd⟩ := D.ex
  refine ⟨k, f, fd, ps, _, dv, F, hr, hm, hk, hb, hd, fun vs H Q E hv q => ?_⟩
  rw [List.append_nil]
  exact ⟨a, h, hv, (fun z => by rw [ho] at z; cases z), fun _ => q⟩
theorem ev_callF {Rs : List Rel} (hc : CallF X x Rs C) (fly : Fly X H0 C) (ha : Av X H0 G (e :: es) Rs') (hl : ArgsLe Rs' Rs) (hg : Gl X x) (hdb : (x == ("__debug__" : Str)) = false) (he : starEach (e :: es) X.env = (false, eval e X.env) :: starEach es X.env)
    (hpl : (backTo pos (starEach es X.env)).any (·.1) = false) : Ev X H0 G (.Call (.Name x p) (e :: es) [] pos) R := by
  obtain ⟨k, f, fd, ps, sp, ds, F, hr, hm, hk, hb, hd, hsp⟩ := hc
  refine PE_imp (pe_call (E := fun cls d H => cls = .ref C ∧ d = none ∧ Same H0 H) F hr hg hm hk hb hd (passes_call fly fun _ _ _ _ h => h) ha hdb he hpl) fun σ H Q q => ?_
  obtain ⟨g, S, q⟩ := q
  exact ⟨g, S, fun vs H1 s1 r1 => hsp _ _ _ _ (hl.args r1) fun H2 s2 => ⟨rfl, rfl, g.trans (s1.trans s2)⟩⟩
end
end Fk

namespace Fk
open PySem L2
section
variable {P : Program} {w : World} {K : PySem.W.Frag} {mg : Str → Option Value} {base : Heap}
theorem exc_ok {x : Str} {st : Stmt} {N ps : List Str} {k : Nat} {α : Type} {args : α → List Rel} {side : α → Prop} {ok : α → Bool} {post : α → Rel} {C : Addr} (F : DefAt K mg x st) (S : FnScope N ps (defScope st)) (loc : ∀ y ∈ N, Loc (defScope st) y ∨ (defScope st).names.lookup y = none) (hl : ∀ a, (args a).length = ps.length)
    (hb : ∀ (kV doc pm : Value) (an : Option Addr) (cdv ct : Value) (us : List Value), us.length = ps.length → bindArgs (PySem.W.fnOf x x (defArgs st) (defBody st) (defScope st) .none kV doc pm an cdv ct) ⟨us, []⟩ = pure (ps.zip us))
    (h : ∀ (a : α) (X : Cx) (H0 : Hp), side a → Body X → (ok a = false → Fly X H0 C) → X.prog = P → X.w = w → X.K = K → X.mg = mg → X.base = base → X.env.scope = defScope st → X.N = N → Room k X.A → ∃ G', Bv X H0 (ctx0 N (args a)) (defBody st) G' (orR (ok a) (post a)) ∧ (∀ C', G' = some C' → ok a = true ∧ ∀ H, (post a).p .non H)) :
    DefOk P w K mg base x (L2.CX P w) (k + 1) ps [] (spE args side ok post C) := by
  obtain ⟨f, fd, F, hm⟩ := F.ex
  exact ⟨f, fd, [], exc_fn F S loc hl h, hm, F.kp, F.binds hb, .nil⟩
theorem exc_rec {x : Str} {st : Stmt} {N ps : List Str} (c : Nat) {α : Type} {args : α → List Rel} {side : α → Prop} {ok : α → Bool} {post : α → Rel} {C : Addr} (meas : α → Nat) (F : DefAt K mg x st) (S : FnScope N ps (defScope st)) (loc : ∀ y ∈ N, Loc (defScope st) y ∨ (defScope st).names.lookup y = none) (hl : ∀ a, (args a).length = ps.length)
    (hb : ∀ (kV doc pm : Value) (an : Option Addr) (cdv ct : Value) (us : List Value), us.length = ps.length → bindArgs (PySem.W.fnOf x x (defArgs st) (defBody st) (defScope st) .none kV doc pm an cdv ct) ⟨us, []⟩ = pure (ps.zip us))
    (h : ∀ (a : α) (X : Cx) (H0 : Hp), side a → (∀ a', side a' → meas a' < meas a → (ok a' = true → CallOk X x (args a') (post a')) ∧ (ok a' = false → CallF X x (args a') C)) → Body X → (ok a = false → Fly X H0 C) → X.prog = P → X.w = w → X.K = K → X.mg = mg → X.base = base → X.env.scope = defScope st → X.N = N → Room c X.A → ∃ G', Bv X H0 (ctx0 N (args a)) (defBody st) G' (orR (ok a) (post a)) ∧ (∀ C', G' = some C' → ok a = true ∧ ∀ H, (post a).p .non H)) :
    ∀ n : Nat, DefOk P w K mg base x (L2.CX P w) (n + c + 1) ps [] (spE args (fun a => side a ∧ meas a < n) ok post C)
  | 0 => exc_ok F S loc hl hb fun a X H0 hs => absurd hs.2 (Nat.not_lt_zero _)
  | n + 1 => exc_ok F S loc hl hb fun a X H0 hs B fl e1 e2 e3 e4 e5 hsc hN hr => by
    have ih := exc_rec c meas F S loc hl hb h n
    subst e1 e2 e3 e4 e5
    refine h a X H0 hs.1 (fun a' sa' hm => ⟨fun ho => ?_, fun ho => ?_⟩) B fl rfl rfl rfl rfl rfl hsc hN (hr.mono (by omega))
    · exact DefOk.atT ih (hr.mono (by omega)) a' ⟨sa', by have := hs.2; omega⟩ ho
    · exact DefOk.atF ih (hr.mono (by omega)) a' ⟨sa', by have := hs.2; omega⟩ ho
end
end Fk

namespace Fk
open PySem L2
theorem sw_par2 {env : Env} {x y : Str} {px py pt p1 p2 pt2 : Pos} {kt k2 : Nat} {f1 f2 : Expr} {as1 as2 : List Expr} {ks1 ks2 : List Keyword} (hk : env.scope.kind = .function) (hx : env.scope.names.lookup x = some .local) (hy : env.scope.names.lookup y = some .local) (hxy : y ≠ x) (hl : (py.line == px.line) = true) :
    swappedStores [.Tuple [.Name x px, .Name y py] kt pt] (.Tuple [.Call f1 as1 ks1 p1, .Call f2 as2 ks2 p2] k2 pt2) env = pure (some [x, y]) := by
  have kx : env.kindOf x = some .local := hx
  have ky : env.kindOf y = some .local := hy
  have hb : env.blockKind = .function := by unfold Env.blockKind; rw [hk]; rfl
  have hl' : py.line = px.line := eq_of_beq hl
  have hd : ([x, y] : List Str).eraseDups = [x, y] := by
    rw [List.eraseDups_cons]
    simp [hxy, List.eraseDups_cons]
  unfold swappedStores
  simp [hb, kx, ky, hl', Expr.pos, List.filterMap, hd, foldedForSure, constantsAlone]
end Fk

namespace Fk
open PySem L2
/-! own parts, plain -/
def Own.paired (l r : Own) : Own := if l = r ∧ l.isNode = false then l else .node l r
def Own.least : Own → Own
  | .leaf b => .leaf b
  | .node l r => l.least.paired r.least
theorem Own.paired_depth (l r : Own) : (l.paired r).depth ≤ max l.depth r.depth + 1 := by
  unfold Own.paired
  split
  · omega
  · exact Nat.le_refl _
theorem Own.least_depth : ∀ o : Own, o.least.depth ≤ o.depth
  | .leaf _ => Nat.le_refl _
  | .node l r => by
    have h1 := Own.paired_depth l.least r.least
    have h2 := Own.least_depth l
    have h3 := Own.least_depth r
    show (l.least.paired r.least).depth ≤ max l.depth r.depth + 1
    omega
def mixed (c k : Int) : Int := ((c % 10 ^ 60 + 17) * 48271 % 2147483647 + 5 * k) * (16807 + 1033 * k * k) % 2147483629 / 4
theorem mixed_nn (c k : Int) : 0 ≤ mixed c k := by
  unfold mixed
  have h := Int.emod_nonneg (((c % 10 ^ 60 + 17) * 48271 % 2147483647 + 5 * k) * (16807 + 1033 * k * k)) (show (2147483629 : Int) ≠ 0 by decide)
  omega
theorem mixed_lt (c k : Int) : mixed c k < 600000000 := by
  unfold mixed
  have h := Int.emod_lt_of_pos (((c % 10 ^ 60 + 17) * 48271 % 2147483647 + 5 * k) * (16807 + 1033 * k * k)) (show (0 : Int) < 2147483629 by decide)
  omega
def genOwn : Nat → Int → Own
  | 0, n => .leaf (decide (n % 2 = 1))
  | d + 1, n => if n % 5 < 2 then .leaf (decide (n % 2 = 1)) else .node (genOwn d (n / 5 * 16807 % 1000003)) (genOwn d (n / 5 * 48271 % 1000033))
theorem genOwn_depth : ∀ (d : Nat) (n : Int), (genOwn d n).depth ≤ d
  | 0, n => Nat.le_refl _
  | d + 1, n => by
    unfold genOwn
    split
    · exact Nat.zero_le _
    · have h1 := genOwn_depth d (n / 5 * 16807 % 1000003)
      have h2 := genOwn_depth d (n / 5 * 48271 % 1000033)
      simp only [Own.depth]
      omega
def places : Nat → Own → List Int
  | 0, .leaf b => [bi b]
  | 0, .node _ _ => []
  | d + 1, .leaf b => places d (.leaf b) ++ places d (.leaf b)
  | d + 1, .node l r => places d l ++ places d r
theorem places_length : ∀ (d : Nat) (o : Own), o.depth ≤ d → (places d o).length = 2 ^ d
  | 0, .leaf b, _ => rfl
  | 0, .node _ _, h => by simp [Own.depth] at h
  | d + 1, .leaf b, _ => by
    have q := places_length d (.leaf b) (Nat.zero_le _)
    simp only [places, List.length_append, q, Nat.pow_succ]
    omega
  | d + 1, .node l r, h => by
    simp only [Own.depth] at h
    have q1 := places_length d l (by omega)
    have q2 := places_length d r (by omega)
    simp only [places, List.length_append, q1, q2, Nat.pow_succ]
    omega
theorem places_bit : ∀ (d : Nat) (o : Own) (n : Int), n ∈ places d o → n = 0 ∨ n = 1
  | 0, .leaf b, n, h => by
    simp only [places, List.mem_singleton] at h
    subst h
    cases b
    · exact .inl rfl
    · exact .inr rfl
  | 0, .node _ _, _, h => by simp [places] at h
  | d + 1, .leaf b, n, h => by
    simp only [places, List.mem_append] at h
    rcases h with h | h <;> exact places_bit d _ n h
  | d + 1, .node l r, n, h => by
    simp only [places, List.mem_append] at h
    rcases h with h | h <;> exact places_bit d _ n h
/-- the least own part that has just these places -/
def ownOf : Nat → List Int → Own
  | 0, ns => .leaf (decide (ns.headD 0 = 1))
  | d + 1, ns => if ns.count (ns.headD 0) = ns.length then .leaf (decide (ns.headD 0 = 1)) else .node (ownOf d (ns.take (ns.length / 2))) (ownOf d (ns.drop (ns.length / 2)))
theorem ownOf_depth : ∀ (d : Nat) (ns : List Int), (ownOf d ns).depth ≤ d
  | 0, _ => Nat.le_refl _
  | d + 1, ns => by
    unfold ownOf
    split
    · exact Nat.zero_le _
    · have h1 := ownOf_depth d (ns.take (ns.length / 2))
      have h2 := ownOf_depth d (ns.drop (ns.length / 2))
      simp only [Own.depth]
      omega
theorem places_node (d : Nat) (l r : Own) : places (d + 1) (.node l r) = places d l ++ places d r := rfl
theorem places_leaf : ∀ (d : Nat) (b : Bool), places d (.leaf b) = List.replicate (2 ^ d) (bi b)
  | 0, b => rfl
  | d + 1, b => by
    show places d (.leaf b) ++ places d (.leaf b) = _
    rw [places_leaf d b, List.replicate_append_replicate]
    congr 1
    rw [Nat.pow_succ]
    omega
theorem pow2_pos (d : Nat) : 0 < 2 ^ d := Nat.pow_pos (by decide)
theorem count_rep (n : Nat) (x : Int) : (List.replicate n x).count x = n := by simp
theorem ownOf_rep : ∀ (d : Nat) (b : Bool), ownOf d (List.replicate (2 ^ d) (bi b)) = .leaf b
  | 0, b => by cases b <;> rfl
  | d + 1, b => by
    have hp := pow2_pos (d + 1)
    have e : (List.replicate (2 ^ (d + 1)) (bi b)).headD 0 = bi b := by
      obtain ⟨k, hk⟩ : ∃ k, 2 ^ (d + 1) = k + 1 := ⟨2 ^ (d + 1) - 1, by omega⟩
      rw [hk]
      rfl
    show (if (List.replicate (2 ^ (d + 1)) (bi b)).count ((List.replicate (2 ^ (d + 1)) (bi b)).headD 0) = (List.replicate (2 ^ (d + 1)) (bi b)).length then Own.leaf (decide ((List.replicate (2 ^ (d + 1)) (bi b)).headD 0 = 1)) else _) = _
    rw [e, if_pos (by simp)]
    cases b <;> rfl
/-- all alike: the head everywhere -/
theorem all_alike {ns : List Int} {x : Int} (h : ns.count x = ns.length) : ns = List.replicate ns.length x := by
  rw [List.count_eq_length] at h
  exact List.eq_replicate_iff.mpr ⟨rfl, fun b hb => (h b hb).symm⟩
theorem paired_leaf (b : Bool) : (Own.leaf b).paired (.leaf b) = .leaf b := by unfold Own.paired; simp [Own.isNode]
/-- the least form is a number just where all places are alike -/
theorem least_leaf : ∀ (d : Nat) (o : Own) (b : Bool), o.depth ≤ d → (o.least = .leaf b ↔ places d o = List.replicate (2 ^ d) (bi b))
  | d, .leaf c, b, _ => by
    rw [places_leaf]
    constructor
    · intro h
      cases h
      rfl
    · intro h
      have hp := pow2_pos d
      have q : bi c = bi b := by
        obtain ⟨k, hk⟩ : ∃ k, 2 ^ d = k + 1 := ⟨2 ^ d - 1, by omega⟩
        rw [hk] at h
        exact (List.cons.inj h).1
      cases c <;> cases b <;> first | rfl | exact absurd q (by decide)
  | 0, .node _ _, _, h => by simp [Own.depth] at h
  | d + 1, .node l r, b, h => by
    simp only [Own.depth] at h
    have h1 := least_leaf d l b (by omega)
    have h2 := least_leaf d r b (by omega)
    have e : List.replicate (2 ^ (d + 1)) (bi b) = List.replicate (2 ^ d) (bi b) ++ List.replicate (2 ^ d) (bi b) := by
      rw [List.replicate_append_replicate]
      congr 1
      rw [Nat.pow_succ]
      omega
    have e2 : (places d l ++ places d r = List.replicate (2 ^ d) (bi b) ++ List.replicate (2 ^ d) (bi b)) ↔ (places d l = List.replicate (2 ^ d) (bi b) ∧ places d r = List.replicate (2 ^ d) (bi b)) :=
      ⟨fun q => List.append_inj q (by rw [places_length d l (by omega), List.length_replicate]), fun q => by rw [q.1, q.2]⟩
    rw [places_node, e, e2]
    rw [← h1, ← h2]
    show l.least.paired r.least = _ ↔ _
    unfold Own.paired
    constructor
    · intro q
      split at q
      · rename_i c
        exact ⟨q, by rw [← c.1]; exact q⟩
      · cases q
    · rintro ⟨q1, q2⟩
      rw [q1, q2, if_pos ⟨rfl, rfl⟩]
theorem bi_inj {a b : Bool} (h : bi a = bi b) : a = b := by
  cases a <;> cases b <;> first | rfl | exact absurd h (by decide)
/-- the law's own going from the places gives the least form -/
theorem ownOf_places : ∀ (d : Nat) (o : Own), o.depth ≤ d → ownOf d (places d o) = o.least
  | d, .leaf b, _ => by
    rw [places_leaf, ownOf_rep]
    rfl
  | 0, .node _ _, h => by simp [Own.depth] at h
  | d + 1, .node l r, h => by
    have h' := h
    simp only [Own.depth] at h'
    have ll := places_length d l (by omega)
    have lr := places_length d r (by omega)
    have hp := pow2_pos d
    have lw : (places (d + 1) (.node l r)).length = 2 ^ (d + 1) := places_length (d + 1) _ h
    show (if (places (d + 1) (.node l r)).count ((places (d + 1) (.node l r)).headD 0) = (places (d + 1) (.node l r)).length then Own.leaf (decide ((places (d + 1) (.node l r)).headD 0 = 1))
      else .node (ownOf d ((places (d + 1) (.node l r)).take ((places (d + 1) (.node l r)).length / 2))) (ownOf d ((places (d + 1) (.node l r)).drop ((places (d + 1) (.node l r)).length / 2)))) = _
    have hmem : (places (d + 1) (.node l r)).headD 0 ∈ places (d + 1) (.node l r) := by
      cases e : places (d + 1) (.node l r) with
      | nil => rw [e] at lw; simp at lw; have := pow2_pos (d + 1); omega
      | cons x xs => simp
    obtain ⟨b, hb⟩ : ∃ b : Bool, (places (d + 1) (.node l r)).headD 0 = bi b := by
      rcases places_bit _ _ _ hmem with e | e
      · exact ⟨false, e⟩
      · exact ⟨true, e⟩
    by_cases c : (places (d + 1) (.node l r)).count ((places (d + 1) (.node l r)).headD 0) = (places (d + 1) (.node l r)).length
    · rw [if_pos c]
      have q := all_alike c
      rw [lw, hb] at q
      rw [hb, (least_leaf (d + 1) (.node l r) b h).mpr q]
      cases b <;> rfl
    · rw [if_neg c, lw]
      have e : 2 ^ (d + 1) / 2 = 2 ^ d := by rw [Nat.pow_succ]; omega
      rw [e, places_node, show (places d l ++ places d r).take (2 ^ d) = places d l from by rw [← ll, List.take_left], show (places d l ++ places d r).drop (2 ^ d) = places d r from by rw [← ll, List.drop_left]]
      rw [ownOf_places d l (by omega), ownOf_places d r (by omega)]
      show _ = l.least.paired r.least
      unfold Own.paired
      rw [if_neg]
      rintro ⟨e1, e2⟩
      apply c
      cases hl : l.least with
      | node _ _ => rw [hl] at e2; cases e2
      | leaf b' =>
        have q : (Own.node l r).least = .leaf b' := by
          show l.least.paired r.least = _
          rw [← e1, hl]
          exact paired_leaf b'
        have q2 := (least_leaf (d + 1) (.node l r) b' h).mp q
        have q3 : (List.replicate (2 ^ (d + 1)) (bi b')).headD 0 = bi b' := by
          obtain ⟨k, hk⟩ : ∃ k, 2 ^ (d + 1) = k + 1 := ⟨2 ^ (d + 1) - 1, by have := pow2_pos (d + 1); omega⟩
          rw [hk]
          rfl
        rw [q2, q3]
        simp
theorem paired_least {l r : Own} (hl : l.least = l) (hr : r.least = r) : (l.paired r).least = l.paired r := by
  unfold Own.paired
  split
  · exact hl
  · rename_i c
    show l.least.paired r.least = _
    rw [hl, hr]
    unfold Own.paired
    rw [if_neg c]
theorem least_least : ∀ o : Own, o.least.least = o.least
  | .leaf _ => rfl
  | .node l r => paired_least (least_least l) (least_least r)
namespace Own
def shares : Own → Own → Bool
  | leaf false, _ => false
  | leaf true, leaf false => false
  | node _ _, leaf false => false
  | leaf true, _ => true
  | _, leaf true => true
  | node l r, node l' r' => shares l l' || shares r r'
def tog : Own → Own → Own
  | leaf false, b => b
  | leaf true, _ => leaf true
  | node l r, leaf _ => node l r
  | node l r, node l' r' => (tog l l').paired (tog r r')
def parted : Own → Own × Own
  | leaf false => (leaf false, leaf false)
  | leaf true => (node (leaf true) (leaf false), node (leaf false) (leaf true))
  | node l r => if l = leaf false then (node (leaf false) r.parted.1, node (leaf false) r.parted.2) else if r = leaf false then (node l.parted.1 (leaf false), node l.parted.2 (leaf false)) else (node l (leaf false), node (leaf false) r)
theorem tog_zero (a : Own) : tog a (leaf false) = a := by
  cases a with
  | leaf b => cases b <;> rfl
  | node l r => rfl
theorem shares_zero (a : Own) : shares a (leaf false) = false := by
  cases a with
  | leaf b => cases b <;> rfl
  | node l r => rfl
theorem tog_depth : ∀ a b : Own, (tog a b).depth ≤ max a.depth b.depth
  | leaf false, b => by simp [tog, depth]
  | leaf true, _ => by simp [tog, depth]
  | node l r, leaf _ => by simp [tog, depth]
  | node l r, node l' r' => by
    have h1 := tog_depth l l'
    have h2 := tog_depth r r'
    have h3 := paired_depth (tog l l') (tog r r')
    simp only [tog, depth]
    omega
theorem parted_depth : ∀ a : Own, a.parted.1.depth ≤ a.depth + 1 ∧ a.parted.2.depth ≤ a.depth + 1
  | leaf false => by simp [parted, depth]
  | leaf true => by simp [parted, depth]
  | node l r => by
    have h1 := parted_depth l
    have h2 := parted_depth r
    unfold parted
    split
    · simp only [depth]; omega
    · split <;> simp only [depth] <;> omega
/-- in its least form -/
def Nf : Own → Prop
  | leaf _ => True
  | node l r => l.Nf ∧ r.Nf ∧ ¬ (l = r ∧ l.isNode = false)
theorem nf_paired {l r : Own} (hl : l.Nf) (hr : r.Nf) : (l.paired r).Nf := by
  unfold paired
  split
  · exact hl
  · rename_i h
    exact ⟨hl, hr, h⟩
theorem nf_least : ∀ o : Own, o.least.Nf
  | leaf _ => trivial
  | node l r => nf_paired (nf_least l) (nf_least r)
theorem nf_eq : ∀ {o : Own}, o.Nf → o.least = o
  | leaf _, _ => rfl
  | node l r, ⟨h1, h2, h3⟩ => by
    show l.least.paired r.least = _
    rw [nf_eq h1, nf_eq h2]
    unfold paired
    rw [if_neg h3]
theorem nf_tog : ∀ {a b : Own}, a.Nf → b.Nf → (tog a b).Nf
  | leaf false, b, _, h => h
  | leaf true, _, _, _ => trivial
  | node l r, leaf _, h, _ => h
  | node l r, node l' r', h, h' => nf_paired (nf_tog h.1 h'.1) (nf_tog h.2.1 h'.2.1)
theorem nf_zero {l r : Own} (h : (node l r).Nf) : ¬ (l = leaf false ∧ r = leaf false) := by
  rintro ⟨rfl, rfl⟩
  exact h.2.2 ⟨rfl, rfl⟩
theorem shares_false_l (b : Own) : shares (leaf false) b = false := by cases b <;> rfl
theorem tog_false_l (b : Own) : tog (leaf false) b = b := by cases b <;> rfl
theorem parted_spec : ∀ {a : Own}, a.Nf → a.parted.1.Nf ∧ a.parted.2.Nf ∧ shares a.parted.1 a.parted.2 = false ∧ tog a.parted.1 a.parted.2 = a ∧ (a ≠ leaf false → a.parted.1 ≠ leaf false ∧ a.parted.2 ≠ leaf false)
  | leaf false, _ => ⟨trivial, trivial, rfl, rfl, fun h => absurd rfl h⟩
  | leaf true, _ => ⟨⟨trivial, trivial, by simp⟩, ⟨trivial, trivial, by simp⟩, rfl, paired_leaf true, fun _ => ⟨by simp [parted], by simp [parted]⟩⟩
  | node l r, h => by
    have hz := nf_zero h
    by_cases hl : l = leaf false
    · subst hl
      have hr : r ≠ leaf false := fun q => hz ⟨rfl, q⟩
      obtain ⟨n1, n2, s, t, z⟩ := parted_spec h.2.1
      have z := z hr
      rw [show (node (leaf false) r).parted = (node (leaf false) r.parted.1, node (leaf false) r.parted.2) from if_pos rfl]
      refine ⟨⟨trivial, n1, fun q => z.1 q.1.symm⟩, ⟨trivial, n2, fun q => z.2 q.1.symm⟩, ?_, ?_, fun _ => ⟨by simp, by simp⟩⟩
      · show (false || shares r.parted.1 r.parted.2) = false
        rw [s]; rfl
      · show (leaf false).paired (tog r.parted.1 r.parted.2) = _
        rw [t]
        unfold paired
        rw [if_neg fun q => hr q.1.symm]
    · by_cases hr : r = leaf false
      · subst hr
        obtain ⟨n1, n2, s, t, z⟩ := parted_spec h.1
        have z := z hl
        rw [show (node l (leaf false)).parted = (node l.parted.1 (leaf false), node l.parted.2 (leaf false)) from by rw [parted, if_neg hl, if_pos rfl]]
        refine ⟨⟨n1, trivial, fun q => z.1 q.1⟩, ⟨n2, trivial, fun q => z.2 q.1⟩, ?_, ?_, fun _ => ⟨by simp, by simp⟩⟩
        · show (shares l.parted.1 l.parted.2 || false) = false
          rw [s]; rfl
        · show (tog l.parted.1 l.parted.2).paired (leaf false) = _
          rw [t]
          unfold paired
          rw [if_neg fun q => hl q.1]
      · rw [show (node l r).parted = (node l (leaf false), node (leaf false) r) from by rw [parted, if_neg hl, if_neg hr]]
        refine ⟨⟨h.1, trivial, fun q => hl q.1⟩, ⟨trivial, h.2.1, fun q => hr q.1.symm⟩, ?_, ?_, fun _ => ⟨by simp, by simp⟩⟩
        · show (shares l (leaf false) || shares (leaf false) r) = false
          rw [shares_zero, shares_false_l]; rfl
        · show (tog l (leaf false)).paired (tog (leaf false) r) = _
          rw [tog_zero, tog_false_l]
          unfold paired
          rw [if_neg h.2.2]
end Own
theorem places_paired (d : Nat) (l r : Own) : places (d + 1) (l.paired r) = places d l ++ places d r := by
  unfold Own.paired
  split
  · rename_i h
    obtain ⟨rfl, h⟩ := h
    cases l with
    | leaf b => rfl
    | node _ _ => cases h
  · rfl
theorem places_least : ∀ (d : Nat) (o : Own), o.depth ≤ d → places d o.least = places d o
  | _, .leaf _, _ => rfl
  | 0, .node _ _, h => by simp [Own.depth] at h
  | d + 1, .node l r, h => by
    simp only [Own.depth] at h
    show places (d + 1) (l.least.paired r.least) = _
    rw [places_paired, places_least d l (by omega), places_least d r (by omega)]
    rfl
theorem nf_one (d : Nat) {o : Own} (h : o.Nf) (hd : o.depth ≤ d) (hz : o ≠ .leaf false) : (1 : Int) ∈ places d o := by
  by_cases q : (1 : Int) ∈ places d o
  · exact q
  · exfalso
    apply hz
    rw [← Own.nf_eq h]
    rw [least_leaf d o false hd]
    rw [← places_length d o hd]
    refine List.eq_replicate_iff.mpr ⟨rfl, fun b hb => ?_⟩
    rcases places_bit d o b hb with e | e
    · exact e
    · subst e; exact absurd hb q
theorem mem_zip_rep {n : Nat} {x : Int} {ys : List Int} (h : ys.length = n) (y : Int) : (x, y) ∈ (List.replicate n x).zip ys ↔ y ∈ ys := by
  subst h
  induction ys with
  | nil => simp
  | cons z zs ih => simp [List.replicate_succ, ih]
theorem mem_zip_rep2 {n : Nat} {x : Int} {ys : List Int} (h : ys.length = n) (y : Int) : (y, x) ∈ ys.zip (List.replicate n x) ↔ y ∈ ys := by
  subst h
  induction ys with
  | nil => simp
  | cons z zs ih => simp [List.replicate_succ, ih]
theorem no_zip_rep {n : Nat} {ys : List Int} {a b : Int} (h : (a, b) ∈ (List.replicate n (0 : Int)).zip ys) : a = 0 := by
  have := List.of_mem_zip h
  exact List.eq_of_mem_replicate this.1
theorem no_zip_rep2 {n : Nat} {ys : List Int} {a b : Int} (h : (a, b) ∈ ys.zip (List.replicate n (0 : Int))) : b = 0 := by
  have := List.of_mem_zip h
  exact List.eq_of_mem_replicate this.2
theorem shares_places : ∀ (d : Nat) (a b : Own), a.Nf → b.Nf → a.depth ≤ d → b.depth ≤ d → (Own.shares a b = true ↔ ((1 : Int), (1 : Int)) ∈ (places d a).zip (places d b))
  | d, .leaf false, b, _, _, _, _ => by
    rw [Own.shares_false_l, places_leaf]
    constructor
    · intro h; cases h
    · intro h; exact absurd (no_zip_rep h) (by decide)
  | d, .leaf true, .leaf false, _, _, _, _ => by
    rw [Own.shares_zero, places_leaf d false]
    constructor
    · intro h; cases h
    · intro h; exact absurd (no_zip_rep2 h) (by decide)
  | d, .leaf true, .leaf true, _, _, _, _ => by
    rw [places_leaf d true]
    constructor
    · intro _
      rw [show bi true = 1 from rfl, mem_zip_rep (by simp)]
      have := pow2_pos d
      simp
    · intro _; rfl
  | d, .leaf true, .node l r, _, h, _, hd => by
    rw [places_leaf d true, show bi true = 1 from rfl, mem_zip_rep (places_length d _ hd)]
    constructor
    · intro _; exact nf_one d h hd (by simp)
    · intro _; rfl
  | d, .node l r, .leaf false, _, _, _, _ => by
    rw [Own.shares_zero, places_leaf d false]
    constructor
    · intro h; cases h
    · intro h; exact absurd (no_zip_rep2 h) (by decide)
  | d, .node l r, .leaf true, h, _, hd, _ => by
    rw [places_leaf d true, show bi true = 1 from rfl, mem_zip_rep2 (places_length d _ hd)]
    constructor
    · intro _; exact nf_one d h hd (by simp)
    · intro _; rfl
  | 0, .node _ _, .node _ _, _, _, h, _ => by simp [Own.depth] at h
  | d + 1, .node l r, .node l' r', ha, hb, h, h' => by
    simp only [Own.depth] at h h'
    have i1 := shares_places d l l' ha.1 hb.1 (by omega) (by omega)
    have i2 := shares_places d r r' ha.2.1 hb.2.1 (by omega) (by omega)
    show (Own.shares l l' || Own.shares r r') = true ↔ _ ∈ (places d l ++ places d r).zip (places d l' ++ places d r')
    rw [List.zip_append (by rw [places_length d l (by omega), places_length d l' (by omega)]), List.mem_append, ← i1, ← i2, Bool.or_eq_true]
theorem zmax_rep0 : ∀ {n : Nat} {ys : List Int}, ys.length = n → (∀ y ∈ ys, 0 ≤ y) → ((List.replicate n (0 : Int)).zip ys).map (fun q => max q.1 q.2) = ys
  | _, [], h, _ => by subst h; rfl
  | _, y :: ys, h, hy => by
    subst h
    have h1 := zmax_rep0 (n := ys.length) (ys := ys) rfl (fun z hz => hy z (List.mem_cons_of_mem _ hz))
    have h2 := hy y List.mem_cons_self
    simp only [List.length_cons, List.replicate_succ, List.zip_cons_cons, List.map_cons]
    rw [h1, Int.max_eq_right h2]
theorem zmax_rep0r : ∀ {n : Nat} {ys : List Int}, ys.length = n → (∀ y ∈ ys, 0 ≤ y) → (ys.zip (List.replicate n (0 : Int))).map (fun q => max q.1 q.2) = ys
  | _, [], h, _ => by subst h; rfl
  | _, y :: ys, h, hy => by
    subst h
    have h1 := zmax_rep0r (n := ys.length) (ys := ys) rfl (fun z hz => hy z (List.mem_cons_of_mem _ hz))
    have h2 := hy y List.mem_cons_self
    simp only [List.length_cons, List.replicate_succ, List.zip_cons_cons, List.map_cons]
    rw [h1, Int.max_eq_left h2]
theorem places_nn {d : Nat} {o : Own} : ∀ y ∈ places d o, (0 : Int) ≤ y := fun y h => by
  rcases places_bit d o y h with e | e <;> omega
theorem tog_places : ∀ (d : Nat) (a b : Own), a.Nf → b.Nf → a.depth ≤ d → b.depth ≤ d → Own.shares a b = false → places d (a.tog b) = ((places d a).zip (places d b)).map fun q => max q.1 q.2
  | d, .leaf false, b, _, _, _, hd, _ => by
    rw [Own.tog_false_l, places_leaf d false]
    exact (zmax_rep0 (places_length d b hd) places_nn).symm
  | d, .leaf true, .leaf false, _, _, hd, _, _ => by
    rw [Own.tog_zero, places_leaf d false]
    exact (zmax_rep0r (places_length d (.leaf true) hd) places_nn).symm
  | d, .leaf true, .leaf true, _, _, _, _, h => by cases h
  | d, .leaf true, .node l r, _, _, _, _, h => by cases h
  | d, .node l r, .leaf false, _, _, hd, _, _ => by
    rw [Own.tog_zero, places_leaf d false]
    exact (zmax_rep0r (places_length d _ hd) places_nn).symm
  | d, .node l r, .leaf true, _, _, _, _, h => by cases h
  | 0, .node _ _, .node _ _, _, _, h, _, _ => by simp [Own.depth] at h
  | d + 1, .node l r, .node l' r', ha, hb, h, h', hs => by
    simp only [Own.depth] at h h'
    have hs : (Own.shares l l' || Own.shares r r') = false := hs
    rw [Bool.or_eq_false_iff] at hs
    have i1 := tog_places d l l' ha.1 hb.1 (by omega) (by omega) hs.1
    have i2 := tog_places d r r' ha.2.1 hb.2.1 (by omega) (by omega) hs.2
    show places (d + 1) ((l.tog l').paired (r.tog r')) = ((places d l ++ places d r).zip (places d l' ++ places d r')).map _
    rw [places_paired, i1, i2, List.zip_append (by rw [places_length d l (by omega), places_length d l' (by omega)]), List.map_append]
theorem Own.tog_comm : ∀ a b : Own, Own.shares a b = false → a.tog b = b.tog a
  | leaf false, b, _ => by rw [tog_zero, tog_false_l]
  | leaf true, leaf false, _ => rfl
  | leaf true, leaf true, h => by cases h
  | leaf true, node _ _, h => by cases h
  | node l r, leaf false, _ => rfl
  | node l r, leaf true, h => by cases h
  | node l r, node l' r', h => by
    have h : (shares l l' || shares r r') = false := h
    rw [Bool.or_eq_false_iff] at h
    show (tog l l').paired (tog r r') = (tog l' l).paired (tog r' r)
    rw [tog_comm l l' h.1, tog_comm r r' h.2]
theorem Own.shares_comm : ∀ a b : Own, Own.shares a b = Own.shares b a
  | leaf false, b => by rw [shares_zero, shares_false_l]
  | leaf true, leaf false => rfl
  | leaf true, leaf true => rfl
  | leaf true, node _ _ => rfl
  | node l r, leaf false => rfl
  | node l r, leaf true => rfl
  | node l r, node l' r' => by
    show (shares l l' || shares r r') = (shares l' l || shares r' r)
    rw [shares_comm l l', shares_comm r r']
end Fk

namespace Fk
open PySem L2
/-! told parts and deeds, plain -/
namespace Told
open Classical in
noncomputable def leB (a b : Told) : Bool := decide (∀ p, a.T p ≤ b.T p)
open Classical in
theorem leB_eq {a b : Told} {u : Bool} (h : (∀ p, a.T p ≤ b.T p) ↔ u = true) : leB a b = u := by
  unfold leB
  cases u with
  | true => exact decide_eq_true (h.mpr rfl)
  | false => exact decide_eq_false fun q => Bool.noConfusion (h.mp q)
open Classical in
theorem leB_iff {a b : Told} : leB a b = true ↔ ∀ p, a.T p ≤ b.T p := by
  unfold leB
  exact decide_eq_true_iff
theorem leB_num {i : Int} {b : Told} (n : b.Norm) : leB (num i) b = decide (i ≤ b.base) := leB_eq (by
  rw [decide_eq_true_iff]
  constructor
  · intro h
    obtain ⟨p, hp⟩ := base_at n
    have := h p
    rw [hp] at this
    exact this
  · intro h p
    exact Int.le_trans h (base_le n p))
theorem leB_to {j : Int} {a : Told} : leB a (num j) = decide (a.greatest ≤ j) := leB_eq (by
  rw [decide_eq_true_iff]
  constructor
  · intro h
    obtain ⟨p, hp⟩ := greatest_at a
    have := h p
    rw [hp] at this
    exact this
  · intro h p
    exact Int.le_trans (le_greatest a p) h)
theorem pl_eta (p : Pl) : pcons (p 0) p.shift = p := by
  funext n
  cases n <;> rfl
theorem leB_half (a b : Told) : leB a b = (leB a.left b.left && leB a.right b.right) := leB_eq (by
  rw [Bool.and_eq_true, leB_iff, leB_iff]
  constructor
  · intro h
    exact ⟨fun p => by rw [T_left, T_left]; exact h _, fun p => by rw [T_right, T_right]; exact h _⟩
  · intro h p
    have h1 := h.1 p.shift
    have h2 := h.2 p.shift
    rw [T_left, T_left] at h1
    rw [T_right, T_right] at h2
    have e := pl_eta p
    cases q : p 0 with
    | false => rw [q] at e; rw [e] at h1; exact h1
    | true => rw [q] at e; rw [e] at h2; exact h2)
/-- the greater one at each place -/
def joinF : Nat → Told → Told → Told
  | 0, a, b => num (max a.base b.base)
  | d + 1, a, b => spread 0 (joinF d a.left b.left) (joinF d a.right b.right)
theorem norm_joinF : ∀ (d : Nat) (a b : Told), (joinF d a b).Norm
  | 0, _, _ => trivial
  | d + 1, a, b => norm_spread (norm_joinF d _ _) (norm_joinF d _ _)
theorem T_joinF : ∀ (d : Nat) (a b : Told) (p : Pl), a.depth ≤ d → b.depth ≤ d → (joinF d a b).T p = max (a.T p) (b.T p)
  | 0, num i, num j, p, _, _ => rfl
  | 0, num _, node _ _ _, _, _, h => by simp [depth] at h
  | 0, node _ _ _, _, _, h, _ => by simp [depth] at h
  | d + 1, a, b, p, h1, h2 => by
    have l1 := left_depth a
    have l2 := left_depth b
    have r1 := right_depth a
    have r2 := right_depth b
    show (spread 0 _ _).T p = _
    rw [T_spread, T_joinF d _ _ _ (by omega) (by omega), T_joinF d _ _ _ (by omega) (by omega), T_left, T_left, T_right, T_right]
    have e := pl_eta p
    cases q : p 0 with
    | false => rw [q] at e; rw [e]; simp
    | true => rw [q] at e; rw [e]; simp
def join (a b : Told) : Told := joinF (max a.depth b.depth) a b
theorem norm_join (a b : Told) : (join a b).Norm := norm_joinF _ _ _
theorem T_join (a b : Told) (p : Pl) : (join a b).T p = max (a.T p) (b.T p) := T_joinF _ _ _ _ (Nat.le_max_left _ _) (Nat.le_max_right _ _)
theorem joinF_depth : ∀ (d : Nat) (a b : Told), (joinF d a b).depth ≤ d
  | 0, _, _ => Nat.le_refl _
  | d + 1, a, b => by
    have h := spread_depth 0 (joinF d a.left b.left) (joinF d a.right b.right)
    have h1 := joinF_depth d a.left b.left
    have h2 := joinF_depth d a.right b.right
    show (spread 0 _ _).depth ≤ _
    omega
theorem join_depth (a b : Told) : (join a b).depth ≤ max a.depth b.depth := joinF_depth _ _ _
theorem join_half (a b : Told) : spread 0 (join a.left b.left) (join a.right b.right) = join a b := uniq (norm_spread (norm_join _ _) (norm_join _ _)) (norm_join _ _) fun p => by
  rw [T_spread, T_join, T_join, T_join, T_left, T_left, T_right, T_right]
  have e := pl_eta p
  cases q : p 0 with
  | false => rw [q] at e; rw [e]; simp
  | true => rw [q] at e; rw [e]; simp
theorem join_num (i j : Int) : join (num i) (num j) = num (max i j) := rfl
end Told
def amt (c m : Int) : Int := if m / 9 % 4 / 3 = 0 then m / 3 % 3 else c % 10 ^ 60
theorem amt_nn (c m : Int) : 0 ≤ amt c m := by
  unfold amt
  split
  · omega
  · exact Int.emod_nonneg _ (by omega)
def genTold : Nat → Int → Int → Told
  | 0, c, n => .num (amt c (n / 5))
  | d + 1, c, n => if n % 5 < 2 then .num (amt c (n / 5)) else .node (amt c (n / 5)) (genTold d c (n / 5 * 16807 % 1000003)) (genTold d (c / 3) (n / 5 * 48271 % 1000033))
theorem genTold_depth : ∀ (d : Nat) (c n : Int), (genTold d c n).depth ≤ d
  | 0, _, _ => Nat.le_refl _
  | d + 1, c, n => by
    unfold genTold
    split
    · exact Nat.zero_le _
    · have h1 := genTold_depth d c (n / 5 * 16807 % 1000003)
      have h2 := genTold_depth d (c / 3) (n / 5 * 48271 % 1000033)
      simp only [Told.depth]
      omega
theorem genTold_nn : ∀ (d : Nat) (c n : Int), (genTold d c n).nn = true
  | 0, c, n => decide_eq_true (amt_nn c _)
  | d + 1, c, n => by
    unfold genTold
    split
    · exact decide_eq_true (amt_nn c _)
    · simp [Told.nn, amt_nn, genTold_nn d]

/-- whether a place is among an own part's -/
def Own.O : Own → Pl → Bool
  | .leaf b, _ => b
  | .node l r, p => if p 0 = true then r.O p.shift else l.O p.shift
namespace Told
theorem nn_norm : ∀ {t : Told}, t.Norm → 0 ≤ t.base → t.nn = true
  | num i, _, h => decide_eq_true h
  | node a l r, n, h => by
    have h1 : 0 ≤ l.base := by have := n.2.2.1; omega
    have h2 : 0 ≤ r.base := by have := n.2.2.1; omega
    have h : 0 ≤ a := h
    simp only [nn, nn_norm n.1 h1, nn_norm n.2.1 h2, decide_eq_true h]
    rfl
theorem eq_left {s t : Told} (hs : s.Norm) (ht : t.Norm) (h : ∀ p, s.T p = t.left.T p) : s = t.left := uniq hs (norm_left ht) h
/-- filled -/
def fill : Own → Told → Told
  | .leaf false, t => t
  | .leaf true, t => num t.greatest
  | .node _ _, num i => num i
  | .node a b, node n l r =>
    if a = .leaf true then spread 0 (num (max (node n l r).left.greatest (fill b (node n l r).right).base)) (fill b (node n l r).right)
    else if b = .leaf true then spread 0 (fill a (node n l r).left) (num (max (node n l r).right.greatest (fill a (node n l r).left).base))
    else spread 0 (fill a (node n l r).left) (fill b (node n l r).right)
theorem fill_num : ∀ (o : Own) (i : Int), fill o (num i) = num i
  | .leaf false, _ => rfl
  | .leaf true, _ => rfl
  | .node _ _, _ => rfl
theorem norm_fill : ∀ (o : Own) {t : Told}, t.Norm → (fill o t).Norm
  | .leaf false, _, h => h
  | .leaf true, _, _ => trivial
  | .node _ _, num _, _ => trivial
  | .node a b, node n l r, h => by
    have hl := norm_left h
    have hr := norm_right h
    unfold fill
    split
    · exact norm_spread trivial (norm_fill b hr)
    · split
      · exact norm_spread (norm_fill a hl) trivial
      · exact norm_spread (norm_fill a hl) (norm_fill b hr)
theorem fill_depth : ∀ (o : Own) (t : Told), (fill o t).depth ≤ t.depth
  | .leaf false, _ => Nat.le_refl _
  | .leaf true, _ => Nat.zero_le _
  | .node _ _, num _ => Nat.le_refl _
  | .node a b, node n l r => by
    have h1 := left_depth (node n l r)
    have h2 := right_depth (node n l r)
    have i1 := fill_depth a (node n l r).left
    have i2 := fill_depth b (node n l r).right
    have e : 0 < (node n l r).depth := Nat.succ_pos _
    unfold fill
    split
    · have := spread_depth 0 (num (max (node n l r).left.greatest (fill b (node n l r).right).base)) (fill b (node n l r).right)
      simp only [show ∀ i, (num i).depth = 0 from fun _ => rfl] at this
      omega
    · split
      · have := spread_depth 0 (fill a (node n l r).left) (num (max (node n l r).right.greatest (fill a (node n l r).left).base))
        simp only [show ∀ i, (num i).depth = 0 from fun _ => rfl] at this
        omega
      · have := spread_depth 0 (fill a (node n l r).left) (fill b (node n l r).right)
        omega
theorem T_half (t : Told) (p : Pl) : t.T p = if p 0 = true then t.right.T p.shift else t.left.T p.shift := by
  rw [T_right, T_left]
  have e := pl_eta p
  cases q : p 0 with
  | false => rw [q] at e; simp [e]
  | true => rw [q] at e; simp [e]
theorem fill_ge : ∀ (o : Own) (t : Told) (p : Pl), t.T p ≤ (fill o t).T p
  | .leaf false, _, _ => Int.le_refl _
  | .leaf true, t, p => le_greatest t p
  | .node _ _, num _, _ => Int.le_refl _
  | .node a b, node n l r, p => by
    have i1 := fill_ge a (node n l r).left p.shift
    have i2 := fill_ge b (node n l r).right p.shift
    have g1 := le_greatest (node n l r).left p.shift
    have g2 := le_greatest (node n l r).right p.shift
    have hT := T_half (node n l r) p
    unfold fill
    split
    · rw [T_spread, T_num, hT]
      split <;> omega
    · split
      · rw [T_spread, T_num, hT]
        split <;> omega
      · rw [T_spread, hT]
        split <;> omega
theorem fill_off : ∀ (o : Own) (t : Told) (p : Pl), o.O p = false → (fill o t).T p = t.T p
  | .leaf false, _, _, _ => rfl
  | .leaf true, _, _, h => by cases h
  | .node _ _, num _, _, _ => rfl
  | .node a b, node n l r, p, h => by
    have h : (if p 0 = true then b.O p.shift else a.O p.shift) = false := h
    have i1 := fill_off a (node n l r).left p.shift
    have i2 := fill_off b (node n l r).right p.shift
    have hT := T_half (node n l r) p
    unfold fill
    split
    · rename_i ha
      rw [T_spread, hT]
      by_cases q : p 0 = true
      · rw [if_pos q] at h ⊢
        rw [if_pos q, i2 h]
        omega
      · rw [if_neg q] at h
        rw [ha] at h
        cases h
    · split
      · rename_i hb
        rw [T_spread, hT]
        by_cases q : p 0 = true
        · rw [if_pos q, hb] at h
          cases h
        · rw [if_neg q] at h ⊢
          rw [if_neg q, i1 h]
          omega
      · rw [T_spread, hT]
        by_cases q : p 0 = true
        · rw [if_pos q] at h ⊢
          rw [if_pos q, i2 h]
          omega
        · rw [if_neg q] at h ⊢
          rw [if_neg q, i1 h]
          omega
/-- where filling changes nothing it changes nothing in either half -/
theorem fix_half {a b : Own} {t : Told} (n : t.Norm) (h : fill (.node a b) t = t) : fill a t.left = t.left ∧ fill b t.right = t.right := by
  cases t with
  | num i => exact ⟨fill_num a i, fill_num b i⟩
  | node m l r =>
    have nl := norm_left n
    have nr := norm_right n
    have half : ∀ s1 s2 : Told, s1.Norm → s2.Norm → spread 0 s1 s2 = node m l r → s1 = (node m l r).left ∧ s2 = (node m l r).right := by
      intro s1 s2 n1 n2 e
      refine ⟨uniq n1 nl fun p => ?_, uniq n2 nr fun p => ?_⟩
      · rw [T_left, ← e, T_spread]; simp
      · rw [T_right, ← e, T_spread]; simp
    unfold fill at h
    split at h
    · rename_i ha
      obtain ⟨e1, e2⟩ := half (num _) _ trivial (norm_fill b nr) h
      refine ⟨?_, e2⟩
      rw [← e1, fill_num]
    · split at h
      · rename_i hb
        obtain ⟨e1, e2⟩ := half _ (num _) (norm_fill a nl) trivial h
        refine ⟨e1, ?_⟩
        rw [← e2, fill_num]
      · exact half _ _ (norm_fill a nl) (norm_fill b nr) h
def price : Own → Told → Int
  | .leaf _, _ => 0
  | .node a b, t => (if t.isNode = true then 1 else 1001) + (if a = .leaf false then price b t.right else if b = .leaf false then price a t.left else min (price a t.left) (price b t.right))
def goesLeft (a b : Own) (l r : Told) : Bool := if a = .leaf false then false else if b = .leaf false then true else decide (price a l < price b r)
def grow : Own → Told → Told
  | .leaf _, t => num (t.base + 1)
  | .node a b, t => if goesLeft a b t.left t.right = true then spread 0 (grow a t.left) t.right else spread 0 t.left (grow b t.right)
theorem norm_grow : ∀ (o : Own) {t : Told}, t.Norm → (grow o t).Norm
  | .leaf _, _, _ => trivial
  | .node a b, t, h => by
    unfold grow
    split
    · exact norm_spread (norm_grow a (norm_left h)) (norm_right h)
    · exact norm_spread (norm_left h) (norm_grow b (norm_right h))
theorem grow_depth : ∀ (o : Own) (t : Told), (grow o t).depth ≤ max o.depth t.depth
  | .leaf _, _ => Nat.zero_le _
  | .node a b, t => by
    have h1 := left_depth t
    have h2 := right_depth t
    have i1 := grow_depth a t.left
    have i2 := grow_depth b t.right
    have e : (Own.node a b).depth = max a.depth b.depth + 1 := rfl
    unfold grow
    split
    · have := spread_depth 0 (grow a t.left) t.right
      omega
    · have := spread_depth 0 t.left (grow b t.right)
      omega
theorem grow_spec : ∀ (o : Own) {t : Told}, o.Nf → o ≠ .leaf false → t.Norm → fill o t = t → (∀ p, t.T p ≤ (grow o t).T p) ∧ (∀ p, o.O p = false → (grow o t).T p = t.T p) ∧ ∃ p, t.T p < (grow o t).T p
  | .leaf false, _, _, h, _, _ => absurd rfl h
  | .leaf true, t, _, _, n, f => by
    have f : num t.greatest = t := f
    rw [← f]
    exact ⟨fun p => (by show t.greatest ≤ t.greatest + 1; omega), fun p h => (by cases (show true = false from h)), fun _ => false, (by show t.greatest < t.greatest + 1; omega)⟩
  | .node a b, t, hn, _, n, f => by
    obtain ⟨f1, f2⟩ := fix_half n f
    have nl := norm_left n
    have nr := norm_right n
    have hz := Own.nf_zero hn
    have go : ∀ (s : Told) (x : Own), (∀ p, (Own.node a b).O p = if p 0 = true then b.O p.shift else a.O p.shift) := fun _ _ _ => rfl
    unfold grow
    split
    · rename_i hg
      have ha : a ≠ .leaf false := by
        intro q
        unfold goesLeft at hg
        rw [if_pos q] at hg
        cases hg
      obtain ⟨g1, g2, p, g3⟩ := grow_spec a hn.1 ha nl f1
      refine ⟨fun p => ?_, fun p h => ?_, pcons false p, ?_⟩
      · rw [T_spread, T_half t]
        have := g1 p.shift
        split <;> omega
      · have h : (if p 0 = true then b.O p.shift else a.O p.shift) = false := h
        rw [T_spread, T_half t]
        by_cases q : p 0 = true
        · rw [if_pos q, if_pos q]; omega
        · rw [if_neg q] at h
          rw [if_neg q, if_neg q, g2 _ h]; omega
      · rw [T_spread, T_half t]
        simp only [pcons_0, shift_pcons, Bool.false_eq_true, if_false]
        omega
    · rename_i hg
      have hb : b ≠ .leaf false := by
        intro q
        have ha : a ≠ .leaf false := fun q' => hz ⟨q', q⟩
        unfold goesLeft at hg
        rw [if_neg ha, if_pos q] at hg
        exact hg rfl
      obtain ⟨g1, g2, p, g3⟩ := grow_spec b hn.2.1 hb nr f2
      refine ⟨fun p => ?_, fun p h => ?_, pcons true p, ?_⟩
      · rw [T_spread, T_half t]
        have := g1 p.shift
        split <;> omega
      · have h : (if p 0 = true then b.O p.shift else a.O p.shift) = false := h
        rw [T_spread, T_half t]
        by_cases q : p 0 = true
        · rw [if_pos q] at h
          rw [if_pos q, if_pos q, g2 _ h]; omega
        · rw [if_neg q, if_neg q]; omega
      · rw [T_spread, T_half t]
        simp only [pcons_0, shift_pcons, if_true]
        omega
def raise (o : Own) (t : Told) : Told := if fill o t = t then grow o t else fill o t
theorem norm_raise (o : Own) {t : Told} (n : t.Norm) : (raise o t).Norm := by
  unfold raise
  split
  · exact norm_grow o n
  · exact norm_fill o n
theorem raise_depth (o : Own) (t : Told) : (raise o t).depth ≤ max o.depth t.depth := by
  have h1 := grow_depth o t
  have h2 := fill_depth o t
  unfold raise
  split <;> omega
theorem raise_ge {o : Own} {t : Told} (h : o.Nf) (hz : o ≠ .leaf false) (n : t.Norm) (p : Pl) : t.T p ≤ (raise o t).T p := by
  unfold raise
  split
  · rename_i f
    exact (grow_spec o h hz n f).1 p
  · exact fill_ge o t p
theorem raise_off {o : Own} {t : Told} (h : o.Nf) (hz : o ≠ .leaf false) (n : t.Norm) (p : Pl) (ho : o.O p = false) : (raise o t).T p = t.T p := by
  unfold raise
  split
  · rename_i f
    exact (grow_spec o h hz n f).2.1 p ho
  · exact fill_off o t p ho
theorem raise_more {o : Own} {t : Told} (h : o.Nf) (hz : o ≠ .leaf false) (n : t.Norm) : ∃ p, t.T p < (raise o t).T p := by
  unfold raise
  split
  · rename_i f
    exact (grow_spec o h hz n f).2.2
  · rename_i f
    apply Classical.byContradiction
    intro q
    apply f
    refine uniq (norm_fill o n) n fun p => ?_
    have h1 := fill_ge o t p
    have h2 : ¬ t.T p < (fill o t).T p := fun h => q ⟨p, h⟩
    omega
theorem nn_raise {o : Own} {t : Told} (h : o.Nf) (hz : o ≠ .leaf false) (n : t.Norm) (hn : t.nn = true) : (raise o t).nn = true := by
  refine nn_norm (norm_raise o n) ?_
  obtain ⟨p, e⟩ := base_at (norm_raise o n)
  have h1 := raise_ge h hz n p
  have h2 := base_le n p
  have h3 := nn_base hn
  omega
end Told
/-! ### places by their number -/
theorem at_rd : ∀ (d k : Nat), k < 2 ^ d → ∃ p : Pl, ∀ ns : List Int, ns.length = 2 ^ d → ns[k]? = some (rd d ns p)
  | 0, k, h => ⟨fun _ => false, fun ns hl => by
    have : k = 0 := by simp at h; exact h
    subst this
    match ns, hl with
    | [n], _ => rfl⟩
  | d + 1, k, h => by
    rw [Nat.pow_succ] at h
    by_cases q : k < 2 ^ d
    · obtain ⟨p, hp⟩ := at_rd d k q
      refine ⟨pcons false p, fun ns hl => ?_⟩
      rw [Nat.pow_succ] at hl
      have := hp (ns.take (2 ^ d)) (by rw [List.length_take]; omega)
      rw [List.getElem?_take_of_lt q] at this
      rw [this]
      simp [rd]
    · obtain ⟨p, hp⟩ := at_rd d (k - 2 ^ d) (by omega)
      refine ⟨pcons true p, fun ns hl => ?_⟩
      rw [Nat.pow_succ] at hl
      have := hp (ns.drop (2 ^ d)) (by rw [List.length_drop]; omega)
      rw [List.getElem?_drop, show 2 ^ d + (k - 2 ^ d) = k by omega] at this
      rw [this]
      simp [rd]
theorem rd_places : ∀ (d : Nat) (o : Own) (p : Pl), o.depth ≤ d → rd d (places d o) p = bi (o.O p)
  | 0, .leaf b, _, _ => rfl
  | 0, .node _ _, _, h => by simp [Own.depth] at h
  | d + 1, .leaf b, p, _ => by
    have hl := places_length d (.leaf b) (Nat.zero_le _)
    have i := rd_places d (.leaf b) p.shift (Nat.zero_le _)
    simp only [rd, places, List.drop_left' hl, List.take_left' hl, i]
    simp [Own.O]
  | d + 1, .node l r, p, h => by
    simp only [Own.depth] at h
    have hl := places_length d l (by omega)
    have i1 := rd_places d l p.shift (by omega)
    have i2 := rd_places d r p.shift (by omega)
    simp only [rd, places, List.drop_left' hl, List.take_left' hl, i1, i2, Own.O]
    split <;> rfl
end Fk

namespace Fk
/-! the law's own filling and growing of numbers, plain -/
def alike (ns : List Int) : Bool := decide (ns.count (ns.headD 0) = ns.length)
theorem headD_mem {ns : List Int} (h : ns ≠ []) : ns.headD 0 ∈ ns := by
  cases ns with
  | nil => exact absurd rfl h
  | cons n ns => exact List.mem_cons_self ..
theorem alike_iff {ns : List Int} (h : ns ≠ []) : alike ns = true ↔ ns.count (lmin ns) = ns.length := by
  unfold alike
  rw [decide_eq_true_iff]
  constructor
  · intro q
    rw [List.count_eq_length] at q ⊢
    have e := q _ (lmin_mem h)
    intro x hx
    rw [← e]
    exact q x hx
  · intro q
    rw [List.count_eq_length] at q ⊢
    have e := q _ (headD_mem h)
    intro x hx
    rw [← e]
    exact q x hx
theorem toldOf_alike {d : Nat} {ns : List Int} (hl : ns.length = 2 ^ d) : (toldOf d ns).isNode = !alike ns := by
  have hne := ne_of_pow hl
  cases d with
  | zero =>
    match ns, hl with
    | [n], _ => simp [toldOf, Told.isNode, alike]
  | succ d =>
    unfold toldOf
    by_cases c : ns.count (lmin ns) = ns.length
    · rw [if_pos c, (alike_iff hne).mpr c]
      rfl
    · rw [if_neg c]
      have : alike ns = false := by
        cases q : alike ns
        · rfl
        · exact absurd ((alike_iff hne).mp q) c
      rw [this]
      rfl
theorem toldOf_num {d : Nat} {ns : List Int} (hl : ns.length = 2 ^ d) (h : alike ns = true) : toldOf d ns = .num (lmin ns) := by
  have hne := ne_of_pow hl
  cases d with
  | zero => rfl
  | succ d =>
    unfold toldOf
    rw [if_pos ((alike_iff hne).mp h)]
theorem base_toldOf (d : Nat) (ns : List Int) : (toldOf d ns).base = lmin ns := by
  cases d with
  | zero => rfl
  | succ d =>
    unfold toldOf
    split <;> rfl
theorem greatest_toldOf {d : Nat} {ns : List Int} (hl : ns.length = 2 ^ d) : (toldOf d ns).greatest = lmax ns := by
  obtain ⟨p, hp⟩ := Told.greatest_at (toldOf d ns)
  rw [T_toldOf d ns p hl] at hp
  have h1 := lmax_ge (rd_mem d ns p hl)
  obtain ⟨q, hq⟩ := mem_rd d ns _ hl (lmax_mem (ne_of_pow hl))
  have h2 := Told.le_greatest (toldOf d ns) q
  rw [T_toldOf d ns q hl, hq] at h2
  omega
theorem rd_rep (d : Nat) (x : Int) (p : Pl) : rd d (List.replicate (2 ^ d) x) p = x := by
  have := rd_mem d (List.replicate (2 ^ d) x) p (by simp)
  exact List.eq_of_mem_replicate this
theorem toldOf_rep (d : Nat) (x : Int) : toldOf d (List.replicate (2 ^ d) x) = .num x :=
  Told.uniq (norm_toldOf d _ (by simp)) trivial fun p => by rw [T_toldOf d _ p (by simp), rd_rep]; rfl
theorem rd_append {d : Nat} {x y : List Int} (hx : x.length = 2 ^ d) (p : Pl) : rd (d + 1) (x ++ y) p = if p 0 = true then rd d y p.shift else rd d x p.shift := by
  simp only [rd, List.drop_left' hx, List.take_left' hx]
theorem spread_toldOf {d : Nat} {x y : List Int} (hx : x.length = 2 ^ d) (hy : y.length = 2 ^ d) : Told.spread 0 (toldOf d x) (toldOf d y) = toldOf (d + 1) (x ++ y) :=
  Told.uniq (Told.norm_spread (norm_toldOf d x hx) (norm_toldOf d y hy)) (norm_toldOf (d + 1) _ (by rw [List.length_append, hx, hy, Nat.pow_succ]; omega)) fun p => by
    rw [Told.T_spread, T_toldOf (d + 1) _ p (by rw [List.length_append, hx, hy, Nat.pow_succ]; omega), T_toldOf d x _ hx, T_toldOf d y _ hy, rd_append hx]
    omega
theorem left_toldOf {d : Nat} {ns : List Int} (hl : ns.length = 2 ^ (d + 1)) : (toldOf (d + 1) ns).left = toldOf d (ns.take (2 ^ d)) := by
  have h1 : (ns.take (2 ^ d)).length = 2 ^ d := by rw [List.length_take, hl, Nat.pow_succ]; omega
  refine Told.uniq (Told.norm_left (norm_toldOf _ _ hl)) (norm_toldOf d _ h1) fun p => ?_
  rw [Told.T_left, T_toldOf _ _ _ hl, T_toldOf _ _ _ h1]
  simp [rd]
theorem right_toldOf {d : Nat} {ns : List Int} (hl : ns.length = 2 ^ (d + 1)) : (toldOf (d + 1) ns).right = toldOf d (ns.drop (2 ^ d)) := by
  have h1 : (ns.drop (2 ^ d)).length = 2 ^ d := by rw [List.length_drop, hl, Nat.pow_succ]; omega
  refine Told.uniq (Told.norm_right (norm_toldOf _ _ hl)) (norm_toldOf d _ h1) fun p => ?_
  rw [Told.T_right, T_toldOf _ _ _ hl, T_toldOf _ _ _ h1]
  simp [rd]
theorem toldOf_inj {d : Nat} {x y : List Int} (hx : x.length = 2 ^ d) (hy : y.length = 2 ^ d) (h : toldOf d x = toldOf d y) : x = y :=
  rd_ext d x y hx hy fun q => by rw [← T_toldOf d x q hx, ← T_toldOf d y q hy, h]
def lfill : Own → List Int → List Int
  | .leaf false, ns => ns
  | .leaf true, ns => if alike ns = true then ns else List.replicate ns.length (lmax ns)
  | .node a b, ns => if alike ns = true then ns else
    if a = .leaf true then List.replicate (ns.length / 2) (max (lmax (ns.take (ns.length / 2))) (lmin (lfill b (ns.drop (ns.length / 2))))) ++ lfill b (ns.drop (ns.length / 2))
    else if b = .leaf true then lfill a (ns.take (ns.length / 2)) ++ List.replicate (ns.length / 2) (max (lmax (ns.drop (ns.length / 2))) (lmin (lfill a (ns.take (ns.length / 2)))))
    else lfill a (ns.take (ns.length / 2)) ++ lfill b (ns.drop (ns.length / 2))
theorem alike_one {ns : List Int} (h : ns.length = 2 ^ 0) : alike ns = true := by
  match ns, h with
  | [n], _ => simp [alike]
theorem lfill_length : ∀ (o : Own) (d : Nat) (ns : List Int), ns.length = 2 ^ d → (lfill o ns).length = 2 ^ d
  | .leaf false, _, _, h => h
  | .leaf true, d, ns, h => by
    unfold lfill
    split
    · exact h
    · rw [List.length_replicate, h]
  | .node a b, 0, ns, h => by
    unfold lfill
    rw [if_pos (alike_one h)]
    exact h
  | .node a b, d + 1, ns, h => by
    have hh : ns.length / 2 = 2 ^ d := by rw [h, Nat.pow_succ]; omega
    have i1 := lfill_length a d (ns.take (2 ^ d)) (by rw [List.length_take, h, Nat.pow_succ]; omega)
    have i2 := lfill_length b d (ns.drop (2 ^ d)) (by rw [List.length_drop, h, Nat.pow_succ]; omega)
    unfold lfill
    rw [hh]
    split
    · exact h
    · split
      · rw [List.length_append, List.length_replicate, i2, Nat.pow_succ]; omega
      · split
        · rw [List.length_append, List.length_replicate, i1, Nat.pow_succ]; omega
        · rw [List.length_append, i1, i2, Nat.pow_succ]; omega
theorem fill_toldOf : ∀ (o : Own) (d : Nat) (ns : List Int), ns.length = 2 ^ d → Told.fill o (toldOf d ns) = toldOf d (lfill o ns)
  | .leaf false, _, _, _ => rfl
  | .leaf true, d, ns, h => by
    unfold lfill
    split
    · rename_i q
      rw [toldOf_num h q]
      rfl
    · show Told.num (toldOf d ns).greatest = _
      rw [greatest_toldOf h, h, toldOf_rep]
  | .node a b, 0, ns, h => by
    unfold lfill
    rw [if_pos (alike_one h), toldOf_num h (alike_one h)]
    rfl
  | .node a b, d + 1, ns, h => by
    have hh : ns.length / 2 = 2 ^ d := by rw [h, Nat.pow_succ]; omega
    have h1 : (ns.take (2 ^ d)).length = 2 ^ d := by rw [List.length_take, h, Nat.pow_succ]; omega
    have h2 : (ns.drop (2 ^ d)).length = 2 ^ d := by rw [List.length_drop, h, Nat.pow_succ]; omega
    have i1 := fill_toldOf a d (ns.take (2 ^ d)) h1
    have i2 := fill_toldOf b d (ns.drop (2 ^ d)) h2
    have l1 := lfill_length a d (ns.take (2 ^ d)) h1
    have l2 := lfill_length b d (ns.drop (2 ^ d)) h2
    by_cases q : alike ns = true
    · unfold lfill
      rw [if_pos q, toldOf_num h q]
      rfl
    · have ht := toldOf_alike h
      have hl := left_toldOf h
      have hr := right_toldOf h
      unfold lfill
      rw [if_neg q, hh]
      cases ht' : toldOf (d + 1) ns with
      | num i =>
        rw [ht'] at ht
        have : alike ns = true := by
          cases e : alike ns
          · rw [e] at ht; cases ht
          · rfl
        exact absurd this q
      | node m l r =>
        rw [ht'] at hl hr
        unfold Told.fill
        rw [hl, hr, i1, i2, greatest_toldOf h1, greatest_toldOf h2, base_toldOf, base_toldOf]
        split
        · rw [← toldOf_rep d, spread_toldOf (by simp) l2]
        · split
          · rw [← toldOf_rep d, spread_toldOf l1 (by simp)]
          · rw [spread_toldOf l1 l2]
/-! ### growing -/
def pick : Own → Nat → List Int → Nat × Nat
  | .leaf _, d, _ => (0, 2 ^ d)
  | .node _ _, 0, _ => (0, 1)
  | .node a b, d + 1, ns => if Told.goesLeft a b (toldOf d (ns.take (2 ^ d))) (toldOf d (ns.drop (2 ^ d))) = true then pick a d (ns.take (2 ^ d)) else (2 ^ d + (pick b d (ns.drop (2 ^ d))).1, (pick b d (ns.drop (2 ^ d))).2)
theorem pick_in : ∀ (o : Own) (d : Nat) (ns : List Int), (pick o d ns).1 + (pick o d ns).2 ≤ 2 ^ d
  | .leaf _, d, _ => by simp [pick]
  | .node _ _, 0, _ => by simp [pick]
  | .node a b, d + 1, ns => by
    have i1 := pick_in a d (ns.take (2 ^ d))
    have i2 := pick_in b d (ns.drop (2 ^ d))
    unfold pick
    rw [Nat.pow_succ]
    split
    · omega
    · show 2 ^ d + (pick b d (ns.drop (2 ^ d))).1 + (pick b d (ns.drop (2 ^ d))).2 ≤ _
      omega
def bump (o s : Nat) : Nat → List Int → List Int
  | _, [] => []
  | k, n :: ns => (n + if o ≤ k ∧ k < o + s then 1 else 0) :: bump o s (k + 1) ns
theorem bump_append (o s : Nat) : ∀ (k : Nat) (x y : List Int), bump o s k (x ++ y) = bump o s k x ++ bump o s (k + x.length) y
  | k, [], y => by simp [bump]
  | k, n :: x, y => by
    have i := bump_append o s (k + 1) x y
    show _ :: bump o s (k + 1) (x ++ y) = _ :: (bump o s (k + 1) x ++ bump o s (k + (x.length + 1)) y)
    rw [i, show k + 1 + x.length = k + (x.length + 1) by omega]
theorem bump_below (o s : Nat) : ∀ (k : Nat) (x : List Int), k + x.length ≤ o → bump o s k x = x
  | _, [], _ => rfl
  | k, n :: x, h => by
    simp only [List.length_cons] at h
    show (n + if o ≤ k ∧ k < o + s then 1 else 0) :: bump o s (k + 1) x = _
    rw [bump_below o s (k + 1) x (by omega), if_neg (by omega), Int.add_zero]
theorem bump_above (o s : Nat) : ∀ (k : Nat) (x : List Int), o + s ≤ k → bump o s k x = x
  | _, [], _ => rfl
  | k, n :: x, h => by
    show (n + if o ≤ k ∧ k < o + s then 1 else 0) :: bump o s (k + 1) x = _
    rw [bump_above o s (k + 1) x (by omega), if_neg (by omega), Int.add_zero]
theorem bump_shift (o s m : Nat) : ∀ (k : Nat) (x : List Int), bump (m + o) s (m + k) x = bump o s k x
  | _, [] => rfl
  | k, n :: x => by
    show (n + if m + o ≤ m + k ∧ m + k < m + o + s then 1 else 0) :: bump (m + o) s (m + k + 1) x = (n + if o ≤ k ∧ k < o + s then 1 else 0) :: bump o s (k + 1) x
    rw [show m + k + 1 = m + (k + 1) by omega, bump_shift o s m (k + 1) x]
    congr 2
    by_cases q : o ≤ k ∧ k < o + s
    · rw [if_pos q, if_pos (by omega)]
    · rw [if_neg q, if_neg (by omega)]
theorem bump_length (o s : Nat) : ∀ (k : Nat) (x : List Int), (bump o s k x).length = x.length
  | _, [] => rfl
  | k, n :: x => by
    show (bump o s (k + 1) x).length + 1 = _
    rw [bump_length o s (k + 1) x]
    rfl
theorem bump_all (s : Nat) (x : Int) : ∀ (n k : Nat), k + n ≤ s → bump 0 s k (List.replicate n x) = List.replicate n (x + 1)
  | 0, _, _ => rfl
  | n + 1, k, h => by
    rw [List.replicate_succ, List.replicate_succ]
    show (x + if 0 ≤ k ∧ k < 0 + s then 1 else 0) :: bump 0 s (k + 1) (List.replicate n x) = _
    rw [bump_all s x n (k + 1) (by omega), if_pos (by omega)]
theorem grow_toldOf : ∀ (o : Own) (d : Nat) (ns : List Int), o.depth ≤ d → ns.length = 2 ^ d → Told.fill o (toldOf d ns) = toldOf d ns → o ≠ .leaf false → o.Nf → Told.grow o (toldOf d ns) = toldOf d (bump (pick o d ns).1 (pick o d ns).2 0 ns)
  | .leaf false, _, _, _, _, _, h, _ => absurd rfl h
  | .leaf true, d, ns, _, hl, hf, _, _ => by
    have hf : Told.num (toldOf d ns).greatest = toldOf d ns := hf
    have ha : alike ns = true := by
      have := toldOf_alike hl
      rw [← hf] at this
      cases e : alike ns
      · rw [e] at this; cases this
      · rfl
    have hm := (alike_iff (ne_of_pow hl)).mp ha
    have hr : ns = List.replicate (2 ^ d) (lmin ns) := by
      rw [← hl]
      exact all_alike hm
    show Told.num ((toldOf d ns).base + 1) = toldOf d (bump 0 (2 ^ d) 0 ns)
    rw [base_toldOf]
    generalize lmin ns = x at *
    subst hr
    rw [bump_all _ _ _ _ (by omega), toldOf_rep]
  | .node a b, 0, _, h, _, _, _, _ => by simp [Own.depth] at h
  | .node a b, d + 1, ns, h, hl, hf, _, hn => by
    simp only [Own.depth] at h
    have h1 : (ns.take (2 ^ d)).length = 2 ^ d := by rw [List.length_take, hl, Nat.pow_succ]; omega
    have h2 : (ns.drop (2 ^ d)).length = 2 ^ d := by rw [List.length_drop, hl, Nat.pow_succ]; omega
    obtain ⟨f1, f2⟩ := Told.fix_half (norm_toldOf _ _ hl) hf
    have hz := Own.nf_zero hn
    have hbp : ∀ o s k, bump o s k ns = bump o s k (ns.take (2 ^ d)) ++ bump o s (k + 2 ^ d) (ns.drop (2 ^ d)) := fun o s k => by
      have := bump_append o s k (ns.take (2 ^ d)) (ns.drop (2 ^ d))
      rw [List.take_append_drop, h1] at this
      exact this
    unfold Told.grow pick
    rw [left_toldOf hl] at f1 ⊢
    rw [right_toldOf hl] at f2 ⊢
    have p1 := pick_in a d (ns.take (2 ^ d))
    have p2 := pick_in b d (ns.drop (2 ^ d))
    cases c : Told.goesLeft a b (toldOf d (ns.take (2 ^ d))) (toldOf d (ns.drop (2 ^ d))) with
    | true =>
      have ha : a ≠ .leaf false := fun q => by
        unfold Told.goesLeft at c
        rw [if_pos q] at c
        cases c
      have i := grow_toldOf a d (ns.take (2 ^ d)) (by omega) h1 f1 ha hn.1
      rw [if_pos rfl, if_pos rfl, i, spread_toldOf (by rw [bump_length, h1]) h2]
      congr 1
      rw [hbp, bump_above _ _ (0 + 2 ^ d) (ns.drop (2 ^ d)) (by omega)]
    | false =>
      have hb : b ≠ .leaf false := fun q => by
        have ha : a ≠ .leaf false := fun q' => hz ⟨q', q⟩
        unfold Told.goesLeft at c
        rw [if_neg ha, if_pos q] at c
        cases c
      have i := grow_toldOf b d (ns.drop (2 ^ d)) (by omega) h2 f2 hb hn.2.1
      rw [if_neg (by decide), if_neg (by decide), i, spread_toldOf h1 (by rw [bump_length, h2])]
      congr 1
      rw [hbp, bump_below _ _ 0 (ns.take (2 ^ d)) (by rw [h1]; show 0 + 2 ^ d ≤ 2 ^ d + _; omega), Nat.zero_add]
      show _ = _ ++ bump (2 ^ d + _) _ (2 ^ d + 0) _
      rw [bump_shift]
end Fk

namespace Fk
/-! the leaves of an own part and what is paid for them; parts far down -/
def lleaves : Own → List Int → Int → Int → List (Int × Int × Int)
  | .leaf false, _, _, _ => []
  | .leaf true, ns, at', pd => [(pd, at', (ns.length : Int))]
  | .node a b, ns, at', pd => lleaves a (ns.take (ns.length / 2)) at' (pd + 1 + 1000 * (if alike ns = true then 1 else 0)) ++ lleaves b (ns.drop (ns.length / 2)) (at' + (ns.length / 2 : Nat)) (pd + 1 + 1000 * (if alike ns = true then 1 else 0))
theorem lleaves_length : ∀ (o : Own) (ns : List Int) (at' pd : Int), (lleaves o ns at' pd).length ≤ 2 ^ o.depth
  | .leaf false, _, _, _ => Nat.zero_le _
  | .leaf true, _, _, _ => Nat.le_refl _
  | .node a b, ns, at', pd => by
    have i1 := lleaves_length a (ns.take (ns.length / 2)) at' (pd + 1 + 1000 * (if alike ns = true then 1 else 0))
    have i2 := lleaves_length b (ns.drop (ns.length / 2)) (at' + (ns.length / 2 : Nat)) (pd + 1 + 1000 * (if alike ns = true then 1 else 0))
    have p1 : 2 ^ a.depth ≤ 2 ^ (max a.depth b.depth) := Nat.pow_le_pow_right (by decide) (by omega)
    have p2 : 2 ^ b.depth ≤ 2 ^ (max a.depth b.depth) := Nat.pow_le_pow_right (by decide) (by omega)
    unfold lleaves
    rw [List.length_append]
    show _ ≤ 2 ^ (max a.depth b.depth + 1)
    rw [Nat.pow_succ]
    omega
/-- the last one of those with the least price -/
def Best (L : List (Int × Int × Int)) (l : Int × Int × Int) : Prop := ∃ L' L'', L = L' ++ l :: L'' ∧ (∀ x ∈ L', l.1 ≤ x.1) ∧ ∀ x ∈ L'', l.1 < x.1
theorem Best.le {L : List (Int × Int × Int)} {l : Int × Int × Int} (h : Best L l) : ∀ x ∈ L, l.1 ≤ x.1 := by
  obtain ⟨L', L'', rfl, h1, h2⟩ := h
  intro x hx
  rw [List.mem_append, List.mem_cons] at hx
  rcases hx with hx | rfl | hx
  · exact h1 x hx
  · exact Int.le_refl _
  · exact Int.le_of_lt (h2 x hx)
theorem best_left {L M : List (Int × Int × Int)} {l m : Int × Int × Int} (h : Best L l) (h2 : Best M m) (hlt : l.1 < m.1) : Best (L ++ M) l := by
  have h3 := h2.le
  obtain ⟨L', L'', rfl, h4, h5⟩ := h
  refine ⟨L', L'' ++ M, by simp, h4, fun x hx => ?_⟩
  rw [List.mem_append] at hx
  rcases hx with hx | hx
  · exact h5 x hx
  · have := h3 x hx; omega
theorem best_right {L M : List (Int × Int × Int)} {l m : Int × Int × Int} (h : Best L l) (h2 : Best M m) (hle : m.1 ≤ l.1) : Best (L ++ M) m := by
  have h3 := h.le
  obtain ⟨M', M'', rfl, h4, h5⟩ := h2
  refine ⟨L ++ M', M'', by simp, fun x hx => ?_, h5⟩
  rw [List.mem_append] at hx
  rcases hx with hx | hx
  · have := h3 x hx; omega
  · exact h4 x hx
theorem Best.min {L : List (Int × Int × Int)} {l : Int × Int × Int} (h : Best L l) : lmin (L.map (·.1)) = l.1 := by
  have h1 := h.le
  obtain ⟨L', L'', rfl, _, _⟩ := h
  have m : l.1 ∈ (L' ++ l :: L'').map (·.1) := List.mem_map.mpr ⟨l, by simp, rfl⟩
  have q := lmin_le m
  obtain ⟨x, hx, e⟩ := List.mem_map.mp (lmin_mem (ns := (L' ++ l :: L'').map (·.1)) (by simp))
  have := h1 x hx
  omega
theorem Best.filter {L : List (Int × Int × Int)} {l : Int × Int × Int} (h : Best L l) : ∃ M, L.filter (fun x => decide (x.1 = l.1)) = M ++ [l] := by
  obtain ⟨L', L'', rfl, _, h2⟩ := h
  refine ⟨L'.filter (fun x => decide (x.1 = l.1)), ?_⟩
  rw [List.filter_append, List.filter_cons_of_pos (by simp)]
  congr 2
  rw [List.filter_eq_nil_iff]
  intro x hx
  have := h2 x hx
  simp
  omega
theorem best_pick : ∀ (o : Own) (d : Nat) (ns : List Int) (at' pd : Int), o.depth ≤ d → ns.length = 2 ^ d → o ≠ .leaf false → o.Nf → Best (lleaves o ns at' pd) (pd + Told.price o (toldOf d ns), at' + ((pick o d ns).1 : Nat), ((pick o d ns).2 : Nat))
  | .leaf false, _, _, _, _, _, _, h, _ => absurd rfl h
  | .leaf true, d, ns, at', pd, _, hl, _, _ => ⟨[], [], by simp [lleaves, Told.price, pick, hl], fun _ h => (by simp at h), fun _ h => (by simp at h)⟩
  | .node a b, 0, _, _, _, h, _, _, _ => by simp [Own.depth] at h
  | .node a b, d + 1, ns, at', pd, h, hl, _, hn => by
    simp only [Own.depth] at h
    have hh : ns.length / 2 = 2 ^ d := by rw [hl, Nat.pow_succ]; omega
    have h1 : (ns.take (2 ^ d)).length = 2 ^ d := by rw [List.length_take, hl, Nat.pow_succ]; omega
    have h2 : (ns.drop (2 ^ d)).length = 2 ^ d := by rw [List.length_drop, hl, Nat.pow_succ]; omega
    have hz := Own.nf_zero hn
    have ha := toldOf_alike hl
    unfold lleaves Told.price pick
    rw [hh, left_toldOf hl, right_toldOf hl, ha]
    have em : (if (!alike ns) = true then (1 : Int) else 1001) = 1 + 1000 * (if alike ns = true then 1 else 0) := by cases alike ns <;> rfl
    rw [em]
    generalize 1000 * (if alike ns = true then (1 : Int) else 0) = z
    by_cases c1 : a = .leaf false
    · have hb : b ≠ .leaf false := fun q => hz ⟨c1, q⟩
      have i := best_pick b d (ns.drop (2 ^ d)) (at' + (2 ^ d : Nat)) (pd + 1 + z) (by omega) h2 hb hn.2.1
      have e : lleaves a (ns.take (2 ^ d)) at' (pd + 1 + z) = [] := by rw [c1]; rfl
      have g : Told.goesLeft a b (toldOf d (ns.take (2 ^ d))) (toldOf d (ns.drop (2 ^ d))) = false := by unfold Told.goesLeft; rw [if_pos c1]
      rw [e, g, List.nil_append, if_pos c1, if_neg (by decide)]
      rw [show pd + (1 + z + Told.price b (toldOf d (ns.drop (2 ^ d)))) = pd + 1 + z + Told.price b (toldOf d (ns.drop (2 ^ d))) by omega]
      rw [show at' + ((2 ^ d + (pick b d (ns.drop (2 ^ d))).1 : Nat) : Int) = at' + (2 ^ d : Nat) + ((pick b d (ns.drop (2 ^ d))).1 : Nat) by omega]
      exact i
    · have i1 := best_pick a d (ns.take (2 ^ d)) at' (pd + 1 + z) (by omega) h1 c1 hn.1
      by_cases c2 : b = .leaf false
      · have e : lleaves b (ns.drop (2 ^ d)) (at' + (2 ^ d : Nat)) (pd + 1 + z) = [] := by rw [c2]; rfl
        have g : Told.goesLeft a b (toldOf d (ns.take (2 ^ d))) (toldOf d (ns.drop (2 ^ d))) = true := by unfold Told.goesLeft; rw [if_neg c1, if_pos c2]
        rw [e, g, List.append_nil, if_neg c1, if_pos c2, if_pos rfl]
        rw [show pd + (1 + z + Told.price a (toldOf d (ns.take (2 ^ d)))) = pd + 1 + z + Told.price a (toldOf d (ns.take (2 ^ d))) by omega]
        exact i1
      · have i2 := best_pick b d (ns.drop (2 ^ d)) (at' + (2 ^ d : Nat)) (pd + 1 + z) (by omega) h2 c2 hn.2.1
        have g : Told.goesLeft a b (toldOf d (ns.take (2 ^ d))) (toldOf d (ns.drop (2 ^ d))) = decide (Told.price a (toldOf d (ns.take (2 ^ d))) < Told.price b (toldOf d (ns.drop (2 ^ d)))) := by unfold Told.goesLeft; rw [if_neg c1, if_neg c2]
        rw [g, if_neg c1, if_neg c2]
        by_cases q : Told.price a (toldOf d (ns.take (2 ^ d))) < Told.price b (toldOf d (ns.drop (2 ^ d)))
        · rw [decide_eq_true q, if_pos rfl]
          have := best_left i1 i2 (by show _ < _; omega)
          rw [show pd + (1 + z + min (Told.price a (toldOf d (ns.take (2 ^ d)))) (Told.price b (toldOf d (ns.drop (2 ^ d))))) = pd + 1 + z + Told.price a (toldOf d (ns.take (2 ^ d))) by omega]
          exact this
        · rw [decide_eq_false q, if_neg (by decide)]
          have := best_right i1 i2 (by show _ ≤ _; omega)
          rw [show pd + (1 + z + min (Told.price a (toldOf d (ns.take (2 ^ d)))) (Told.price b (toldOf d (ns.drop (2 ^ d))))) = pd + 1 + z + Told.price b (toldOf d (ns.drop (2 ^ d))) by omega]
          rw [show at' + ((2 ^ d + (pick b d (ns.drop (2 ^ d))).1 : Nat) : Int) = at' + (2 ^ d : Nat) + ((pick b d (ns.drop (2 ^ d))).1 : Nat) by omega]
          exact this
/-! far down -/
def farO : Nat → Own
  | 0 => .leaf true
  | k + 1 => .node (.leaf false) (farO k)
def farT (c : Int) : Nat → Told
  | 0 => .num c
  | k + 1 => .node 0 (.num 0) (farT c k)
theorem farO_nz (k : Nat) : farO k ≠ .leaf false := by cases k <;> simp [farO]
theorem farO_nf : ∀ k, (farO k).Nf
  | 0 => trivial
  | k + 1 => ⟨trivial, farO_nf k, fun q => farO_nz k q.1.symm⟩
theorem farO_depth : ∀ k, (farO k).depth = k
  | 0 => rfl
  | k + 1 => by show max 0 (farO k).depth + 1 = _; rw [farO_depth k]; omega
theorem farT_depth (c : Int) : ∀ k, (farT c k).depth = k
  | 0 => rfl
  | k + 1 => by show max 0 (farT c k).depth + 1 = _; rw [farT_depth c k]; omega
theorem farT_base {c : Int} (hc : 0 < c) : ∀ k, 0 ≤ (farT c k).base
  | 0 => Int.le_of_lt hc
  | _ + 1 => Int.le_refl _
theorem farT_ne {c : Int} (hc : 0 < c) : ∀ k, farT c k ≠ .num 0
  | 0 => fun h => by have := Told.num.inj h; omega
  | _ + 1 => fun h => by cases h
theorem lift_zero (t : Told) : t.lift 0 = t := by cases t <;> simp [Told.lift]
theorem far_spread {c : Int} (hc : 0 < c) (k : Nat) : Told.spread 0 (.num 0) (farT c k) = .node 0 (.num 0) (farT c k) := by
  have hb := farT_base hc k
  have hm : min (Told.num 0).base (farT c k).base = 0 := by show min 0 _ = (0 : Int); omega
  unfold Told.spread
  rw [if_neg (fun q => farT_ne hc k q.1.symm), hm]
  show Told.node (0 + 0) ((Told.num 0).lift 0) ((farT c k).lift 0) = _
  rw [lift_zero, lift_zero]
  rfl
theorem far_spread2 {c : Int} (hc : 0 < c) (k : Nat) : Told.spread 0 (farT c k) (.num 0) = .node 0 (farT c k) (.num 0) := by
  have hb := farT_base hc k
  have hm : min (farT c k).base (Told.num 0).base = 0 := by show min _ 0 = (0 : Int); omega
  unfold Told.spread
  rw [if_neg (fun q => farT_ne hc k q.1), hm]
  show Told.node (0 + 0) ((farT c k).lift 0) ((Told.num 0).lift 0) = _
  rw [lift_zero, lift_zero]
  rfl
theorem farT_norm {c : Int} (hc : 0 < c) : ∀ k, (farT c k).Norm
  | 0 => trivial
  | k + 1 => ⟨trivial, farT_norm hc k, by have := farT_base hc k; show min 0 _ = (0 : Int); omega, fun q => farT_ne hc k q.1.symm⟩
theorem far_left (c : Int) (k : Nat) : (farT c (k + 1)).left = .num 0 := rfl
theorem far_right (c : Int) (k : Nat) : (farT c (k + 1)).right = farT c k := lift_zero _
theorem far_fill : ∀ k, Told.fill (farO k) (farT 1 k) = farT 1 k
  | 0 => rfl
  | k + 1 => by
    show Told.fill (.node (.leaf false) (farO k)) (.node 0 (.num 0) (farT 1 k)) = _
    unfold Told.fill
    rw [if_neg (by simp), show (Told.node 0 (.num 0) (farT 1 k)).left = .num 0 from rfl, show (Told.node 0 (.num 0) (farT 1 k)).right = farT 1 k from lift_zero _]
    by_cases q : farO k = .leaf true
    · cases k with
      | zero => rw [if_pos q]; rfl
      | succ k => cases q
    · rw [if_neg q, far_fill k]
      exact far_spread (by decide) k
theorem far_grow : ∀ k, Told.grow (farO k) (farT 1 k) = farT 2 k
  | 0 => rfl
  | k + 1 => by
    show Told.grow (.node (.leaf false) (farO k)) (farT 1 (k + 1)) = _
    unfold Told.grow Told.goesLeft
    rw [if_pos rfl, if_neg (by decide), far_left, far_right, far_grow k]
    exact far_spread (by decide) k
theorem far_price : ∀ k, Told.price (farO k) (farT 1 k) = k
  | 0 => rfl
  | k + 1 => by
    show Told.price (.node (.leaf false) (farO k)) (farT 1 (k + 1)) = _
    unfold Told.price
    rw [if_pos rfl, far_right, far_price k]
    show (1 : Int) + k = ((k + 1 : Nat) : Int)
    omega
def own01 : Own := .node (.leaf false) (.leaf true)
theorem price01 : Told.price own01 (.num 0) = 1001 := by simp [own01, Told.price, Told.isNode]
theorem own01_nf : own01.Nf := ⟨trivial, trivial, fun q => by cases q.1⟩
theorem own01_nz : own01 ≠ .leaf false := by simp [own01]
theorem farEven (k : Nat) (h : k + 1 < 1000) : Told.fill (.node own01 (farO (k + 1))) (.node 0 (.num 0) (farT 1 (k + 1))) = .node 0 (.num 0) (farT 1 (k + 1)) ∧ Told.grow (.node own01 (farO (k + 1))) (.node 0 (.num 0) (farT 1 (k + 1))) = .node 0 (.num 0) (farT 2 (k + 1)) := by
  have l : (Told.node 0 (.num 0) (farT 1 (k + 1))).left = .num 0 := rfl
  have r : (Told.node 0 (.num 0) (farT 1 (k + 1))).right = farT 1 (k + 1) := lift_zero (farT 1 (k + 1))
  have g : Told.goesLeft own01 (farO (k + 1)) (.num 0) (farT 1 (k + 1)) = false := by
    unfold Told.goesLeft
    rw [if_neg own01_nz, if_neg (farO_nz _), price01, far_price]
    exact decide_eq_false (by omega)
  constructor
  · unfold Told.fill
    rw [if_neg (by simp [own01]), if_neg (by simp [farO]), l, r, far_fill]
    rw [show Told.fill own01 (.num 0) = .num 0 from rfl]
    exact far_spread (by decide) _
  · unfold Told.grow
    rw [l, r, g, if_neg (by decide), far_grow]
    exact far_spread (by decide) _
theorem farOdd (k : Nat) (h : k + 1 < 1000) : Told.fill (.node (farO (k + 1)) own01) (.node 0 (farT 1 (k + 1)) (.num 0)) = .node 0 (farT 1 (k + 1)) (.num 0) ∧ Told.grow (.node (farO (k + 1)) own01) (.node 0 (farT 1 (k + 1)) (.num 0)) = .node 0 (farT 2 (k + 1)) (.num 0) := by
  have l : (Told.node 0 (farT 1 (k + 1)) (.num 0)).left = farT 1 (k + 1) := lift_zero (farT 1 (k + 1))
  have r : (Told.node 0 (farT 1 (k + 1)) (.num 0)).right = .num 0 := rfl
  have g : Told.goesLeft (farO (k + 1)) own01 (farT 1 (k + 1)) (.num 0) = true := by
    unfold Told.goesLeft
    rw [if_neg (farO_nz _), if_neg own01_nz, price01, far_price]
    exact decide_eq_true (by omega)
  constructor
  · unfold Told.fill
    rw [if_neg (by simp [farO]), if_neg (by simp [own01]), l, r, far_fill]
    rw [show Told.fill own01 (.num 0) = .num 0 from rfl]
    exact far_spread2 (by decide) _
  · unfold Told.grow
    rw [l, r, g, if_pos rfl, far_grow]
    exact far_spread2 (by decide) _
end Fk

namespace MP
/-! A small machine over values: expressions, statements, defs; a store of things that may change. -/
/-- frozen values -/
inductive FV where
  | non | bl (b : Bool) | int (i : Int) | str (s : List Nat) | tup (xs : List FV) | lst (xs : List FV) | ins (c : Nat) (fs : List FV) | exc (c : Nat) | scr (ns : List Int)
/-- a value: a frozen one, or a thing of the store -/
inductive PV where
  | f (v : FV) | r (n : Nat)
inductive KY where
  | i (n : Int) | s (x : List Nat)
  deriving DecidableEq
inductive Obj where
  | lst (xs : List PV) | dic (kvs : List (KY × PV)) | dit (kvs : List (List Int × PV)) | ins (c : Nat) (fs : List PV)
abbrev Store := List Obj
abbrev Env := List (Option PV)
inductive R (α : Type) where
  | ok (v : α) (st : Store) | exc (c : Nat) (st : Store) | bad
def R.bind {α β : Type} (r : R α) (f : α → Store → R β) : R β := match r with
  | .ok v st => f v st
  | .exc c st => .exc c st
  | .bad => .bad
inductive BO where
  | add | sub | mul | fdiv | mod | pow | shl | shr | band | bor | bxor
inductive CO where
  | lt | le | gt | ge | eq | ne | isin | notin | is | isnot
/-- built-in functions of values -/
inductive BI where
  | len | max | min | all | sorted | list | tuple | int | str | int2 | repr | sortedSet | bool
inductive BM where
  | count | join | get | pop
inductive TY where
  | int | bool | tuple | list | str | cls (c : Nat) | valueError
mutual
inductive E where
  | v (i : Nat) | k (c : FV)
  | bin (o : BO) (a b : E) | cmp (o : CO) (a b : E) | chain (o p : CO) (a b c : E)
  | and (a b : E) | or (a b : E) | not (a : E) | neg (a : E) | ite (c a b : E)
  | tup (es : Es) | lst (es : Es) | mlst (es : Es) | mdic (ks : List KY) (es : Es)
  | dget (a i : E) | din (a b : E) | dnot (a b : E)
  | ix (a i : E) | cutTo (a hi : E) | cutFrom (a lo : E) | cut (a lo hi : E)
  | fld (c k : Nat) (a : E)
  | call (f : Nat) (es : Es) | meth (c f : Nat) (o : E) (es : Es) | make (z : Bool) (c f : Nat) (es : Es) (ds : List FV)
  | blt (b : BI) (es : Es) | isi (a : E) (t : TY) | bm (m : BM) (o : E) (es : Es)
  | lc (elt : E) (tg : List Nat) (it : IT) | lcIf (elt : E) (tg : List Nat) (it : IT) (c : E)
inductive Es where
  | nil | cons (e : E) (es : Es)
inductive IT where
  | seq (e : E) | range (e : E) | rangeS (a b c : E) | enum (e : E) | zip (a b : E)
end
def Es.len : Es → Nat
  | .nil => 0
  | .cons _ es => es.len + 1
mutual
inductive S where
  | set (i : Nat) (e : E) | unp (is : List Nat) (e : E) | par (i j : Nat) (a b : E)
  | setIx (a i e : E) | setIx2 (a i b j e : E) | setFld (c k : Nat) (a e : E) | augFld (c k : Nat) (o : BO) (a e : E) | aug (i : Nat) (o : BO) (e : E)
  | app (a e : E) | ifs (c : E) (t f : Bk) | whl (c : E) (b : Bk) | fors (tg : List Nat) (it : IT) (b : Bk)
  | ret (e : E) | ex (e : E) | raise (c : Nat) | tryKeep (b : Bk) (c y i : Nat) | pass
inductive Bk where
  | nil | cons (s : S) (b : Bk)
end
structure Def where
  np : Nat
  ns : Nat
  body : Bk
  pure : Bool
/-! ### values -/
mutual
def FV.eqv : FV → FV → Bool
  | .non, .non => true
  | .bl a, .bl b => a == b
  | .bl a, .int j => (if a then 1 else 0) == j
  | .int i, .bl b => i == (if b then 1 else 0)
  | .int i, .int j => i == j
  | .str x, .str y => x == y
  | .lst xs, .lst ys => FV.eqvs xs ys
  | .tup xs, .tup ys => FV.eqvs xs ys
  | _, _ => false
def FV.eqvs : List FV → List FV → Bool
  | [], [] => true
  | x :: xs, y :: ys => FV.eqv x y && FV.eqvs xs ys
  | _, _ => false
end
mutual
/-- plain data -/
def FV.data : FV → Bool
  | .ins _ _ => false
  | .exc _ => false
  | .scr _ => false
  | .lst xs => FV.datas xs
  | .tup xs => FV.datas xs
  | .str s => s.all (· < 0x110000)
  | _ => true
def FV.datas : List FV → Bool
  | [] => true
  | x :: xs => FV.data x && FV.datas xs
end
mutual
def FV.depth : FV → Nat
  | .lst xs => FV.depths xs + 1
  | .tup xs => FV.depths xs + 1
  | _ => 0
def FV.depths : List FV → Nat
  | [] => 0
  | x :: xs => Nat.max (FV.depth x) (FV.depths xs)
end
def FV.okd (v : FV) : Bool := v.data && decide (v.depth ≤ 60)
def nums (ns : List Int) : List FV := ns.map .int
def FV.toInt? : FV → Option Int
  | .int i => some i
  | _ => none
def allInts : List FV → Option (List Int)
  | [] => some []
  | .int i :: xs => (allInts xs).map (i :: ·)
  | _ :: _ => none
def allBls : List FV → Option (List Bool)
  | [] => some []
  | .bl i :: xs => (allBls xs).map (i :: ·)
  | _ :: _ => none
def allStrs : List FV → Option (List (List Nat))
  | [] => some []
  | .str i :: xs => (allStrs xs).map (i :: ·)
  | _ :: _ => none
def line : Nat := 1000000
def cmul (i j : Int) : Bool := decide (-(2 ^ 64) < i ∧ i < 2 ^ 64) || decide (-(2 ^ 64) < j ∧ j < 2 ^ 64)
def cpow (i j : Int) : Bool := decide (0 ≤ j ∧ j ≤ 1000000 ∧ i.natAbs < 2 ^ 64)
def rep {α : Type} (xs : List α) : Nat → List α
  | 0 => []
  | n + 1 => xs ++ rep xs n
/-- bitwise, of numbers that are none below 0 -/
def bitI (f : Nat → Nat → Nat) (i j : Int) : Option Int := if 0 ≤ i ∧ 0 ≤ j then some (f i.toNat j.toNat : Nat) else none
def g {α : Type} (c : Bool) (v : α) : Option α := if c = true then some v else none
def binop : BO → FV → FV → Option FV
  | .add, .int i, .int j => some (.int (i + j))
  | .add, .str x, .str y => g (decide (x.length + y.length ≤ line)) (.str (x ++ y))
  | .add, .scr x, .lst y => g (decide (x.length + y.length ≤ line)) (.lst (nums x ++ y))
  | .add, .lst x, .lst y => g (decide (x.length + y.length ≤ line)) (.lst (x ++ y))
  | .sub, .int i, .int j => some (.int (i - j))
  | .mul, .int i, .int j => g (cmul i j) (.int (i * j))
  | .mul, .lst x, .int j => g (decide (0 ≤ j ∧ j < 2 ^ 63 ∧ x.length * j.toNat ≤ line)) (.lst (rep x j.toNat))
  | .fdiv, .int i, .int j => g (decide (0 < j ∧ j < 1073741824)) (.int (i / j))
  | .mod, .int i, .int j => g (decide (0 < j)) (.int (i % j))
  | .pow, .int i, .int j => g (cpow i j) (.int (i ^ j.toNat))
  | .shl, .int i, .int j => g (cpow i j) (.int (i * 2 ^ j.toNat))
  | .shr, .int i, .int j => g (decide (0 ≤ j)) (.int (i / 2 ^ j.toNat))
  | .band, .int i, .int j => (bitI Nat.land i j).map .int
  | .bor, .int i, .int j => (bitI Nat.lor i j).map .int
  | .bxor, .int i, .int j => (bitI Nat.xor i j).map .int
  | _, _, _ => none
def intsOf : FV → FV → Option (Int × Int)
  | .int i, .int j => some (i, j)
  | _, _ => none
def inF : FV → FV → Option Bool
  | a, .tup xs => g (a.okd && (FV.tup xs).okd) (xs.any fun z => z.eqv a)
  | a, .lst xs => g (a.okd && (FV.lst xs).okd) (xs.any fun z => z.eqv a)
  | _, _ => none
def inL : FV → FV → Option Bool
  | a, .lst xs => inF a (.lst xs)
  | _, _ => none
def FV.isNon : FV → Bool
  | .non => true
  | _ => false
def isF : FV → FV → Option Bool
  | a, .non => some a.isNon
  | .bl a, .bl b => some (decide (a = b))
  | _, _ => none
def cmpop : CO → FV → FV → Option Bool
  | .lt, a, b => (intsOf a b).map fun p => decide (p.1 < p.2)
  | .le, a, b => (intsOf a b).map fun p => decide (p.1 ≤ p.2)
  | .gt, a, b => (intsOf a b).map fun p => decide (p.2 < p.1)
  | .ge, a, b => (intsOf a b).map fun p => decide (p.2 ≤ p.1)
  | .eq, a, b => g (a.okd && b.okd) (a.eqv b)
  | .ne, a, b => g (a.okd && b.okd) (!a.eqv b)
  | .isin, a, b => inF a b
  | .notin, a, b => (inL a b).map fun z => !z
  | .is, a, b => isF a b
  | .isnot, a, b => (isF a b).map fun z => !z
def lmax : Int → List Int → Int
  | a, [] => a
  | a, b :: bs => lmax (max a b) bs
def lmin : Int → List Int → Int
  | a, [] => a
  | a, b :: bs => lmin (min a b) bs
def insSort (x : Int) : List Int → List Int
  | [] => [x]
  | y :: ys => if x ≤ y then x :: y :: ys else y :: insSort x ys
def sortI : List Int → List Int
  | [] => []
  | x :: xs => insSort x (sortI xs)
/-- rising, each once -/
def insSet (x : Int) : List Int → List Int
  | [] => [x]
  | y :: ys => if x < y then x :: y :: ys else if x = y then y :: ys else y :: insSet x ys
def sortSet : List Int → List Int
  | [] => []
  | x :: xs => insSet x (sortSet xs)
def joinS (sep : List Nat) : List (List Nat) → List Nat
  | [] => []
  | [x] => x
  | x :: y :: r => x ++ sep ++ joinS sep (y :: r)
def b2i : Bool → Int
  | true => 1
  | false => 0
/-- built-in functions of frozen values -/
def bltF : BI → List FV → Option FV
  | .len, [.tup xs] => some (.int xs.length)
  | .len, [.scr xs] => some (.int xs.length)
  | .len, [.lst xs] => some (.int xs.length)
  | .len, [.str xs] => g (decide (xs.length ≤ line)) (.int xs.length)
  | .max, [.int i, .int j] => some (.int (max i j))
  | .min, [.int i, .int j] => some (.int (min i j))
  | .max, [.lst xs] => (allInts xs).bind fun ns => match ns with | [] => none | n :: ns => some (.int (lmax n ns))
  | .min, [.lst xs] => (allInts xs).bind fun ns => match ns with | [] => none | n :: ns => some (.int (lmin n ns))
  | .max, [.tup [.int i, .int j]] => some (.int (max i j))
  | .all, [.lst xs] => (allBls xs).map fun bs => .bl (bs.all id)
  | .sorted, [.lst xs] => (allInts xs).map fun ns => .lst (nums (sortI ns))
  | .sortedSet, [.lst xs] => (allInts xs).bind fun ns => g (decide (ns.length < 64)) (.lst (nums (sortSet ns)))
  | .list, [.lst xs] => some (.lst xs)
  | .tuple, [.lst xs] => some (.tup xs)
  | .int, [.int i] => some (.int i)
  | .int, [.bl b] => some (.int (b2i b))
  | _, _ => none
def isiF (sub : Nat → Nat → Option Bool) : FV → TY → Option Bool
  | .int _, .int => some true
  | .bl _, .int => some true
  | .bl _, .bool => some true
  | .tup _, .tuple => some true
  | .lst _, .list => some true
  | .str _, .str => some true
  | .ins c _, .cls d => if c < 10 then sub c d else none
  | .exc c, .cls d => if 10 ≤ c then sub c d else none
  | .exc c, .valueError => if 10 ≤ c ∧ (sub c c).isSome = true then some true else none
  | .ins _ _, _ => none
  | .exc _, _ => none
  | .scr _, _ => none
  | _, .cls _ => none
  | _, .valueError => none
  | _, _ => some false
end MP
namespace MP
/-! ### running -/
def allF : List PV → Option (List FV)
  | [] => some []
  | .f v :: xs => (allF xs).map (v :: ·)
  | .r _ :: _ => none
def R.of {α : Type} (o : Option α) (st : Store) : R α := match o with
  | some v => .ok v st
  | none => .bad
def PV.fr (pv : PV) (st : Store) (k : FV → Store → R PV) : R PV := match pv with
  | .f v => k v st
  | .r _ => .bad
/-- a list of the store, read as a frozen one -/
def view (st : Store) : PV → Option FV
  | .f v => some v
  | .r n => match st[n]? with
    | some (.lst xs) => (allF xs).map .lst
    | _ => none
def keyOf : FV → Option KY
  | .int i => some (.i i)
  | .str s => some (.s s)
  | _ => none
def KY.val : KY → FV
  | .i n => .int n
  | .s x => .str x
def dget {κ : Type} [DecidableEq κ] (k : κ) : List (κ × PV) → Option PV
  | [] => none
  | (q, v) :: r => if q = k then some v else dget k r
def dput {κ : Type} [DecidableEq κ] (k : κ) (w : PV) : List (κ × PV) → List (κ × PV)
  | [] => [(k, w)]
  | (q, v) :: r => if q = k then (q, w) :: r else (q, v) :: dput k w r
def ddel {κ : Type} [DecidableEq κ] (k : κ) : List (κ × PV) → List (κ × PV)
  | [] => []
  | (q, v) :: r => if q = k then r else (q, v) :: ddel k r
def atIx {α : Type} (xs : List α) (i : Int) : Option α := if 0 ≤ i then xs[i.toNat]? else if -(xs.length : Int) ≤ i then xs[(i + xs.length).toNat]? else none
def setIxN (n : Nat) (i : Int) : Option Nat := if 0 ≤ i ∧ i < n then some i.toNat else none
def ixS (st : Store) : PV → FV → Option PV
  | .f (.tup xs), .int i => (atIx xs i).map .f
  | .f (.lst xs), .int i => (atIx xs i).map .f
  | .f (.scr xs), .int i => (atIx xs i).map fun n => .f (.int n)
  | .f (.str xs), .int i => (g (decide (xs.length ≤ line)) ()).bind fun _ => (atIx xs i).map fun c => .f (.str [c])
  | .r n, k => match st[n]? with
    | some (.lst xs) => match k with
      | .int i => atIx xs i
      | _ => none
    | _ => none
  | _, _ => none
def dgetS (st : Store) : PV → FV → Option PV
  | .r n, k => match st[n]? with
    | some (.dic kvs) => (keyOf k).bind fun q => dget q kvs
    | _ => none
  | _, _ => none
def dinS (st : Store) : FV → PV → Option Bool
  | k, .r n => match st[n]? with
    | some (.dic kvs) => (keyOf k).map fun q => (dget q kvs).isSome
    | _ => none
  | _, _ => none
def cutF (a : FV) (lo hi : Option Int) : Option FV :=
  if (∀ i ∈ lo, 0 ≤ i) ∧ (∀ i ∈ hi, 0 ≤ i) then
    match a with
    | .lst xs => some (.lst (((hi.map fun i => xs.take i.toNat).getD xs).drop ((lo.map Int.toNat).getD 0)))
    | .tup xs => some (.tup (((hi.map fun i => xs.take i.toNat).getD xs).drop ((lo.map Int.toNat).getD 0)))
    | .str xs => g (decide (xs.length ≤ line)) (.str (((hi.map fun i => xs.take i.toNat).getD xs).drop ((lo.map Int.toNat).getD 0)))
    | _ => none
  else none
def cmpS (st : Store) (o : CO) (a b : PV) : Option Bool := match a, b with
  | .f x, .f y => cmpop o x y
  | .f x, .r n => match st[n]? with
    | some (.lst xs) => (allF xs).bind fun ys => cmpop o x (.lst ys)
    | _ => none
  | .r n, .f y => match st[n]? with
    | some (.lst xs) => (allF xs).bind fun ys => cmpop o (.lst ys) y
    | _ => none
  | .r n, .r m => match st[n]?, st[m]? with
    | some (.lst xs), some (.lst ys) => (allF xs).bind fun xs => (allF ys).bind fun ys => cmpop o (.lst xs) (.lst ys)
    | _, _ => none
def keysI : List (KY × PV) → Option (List Int)
  | [] => some []
  | (.i n, _) :: r => (keysI r).map (n :: ·)
  | (.s _, _) :: _ => none
def bltS (st : Store) (b : BI) (vs : List PV) : Option FV := match vs with
  | [.r n] => match st[n]? with
    | some (.lst xs) => (allF xs).bind fun ys => bltF b [.lst ys]
    | some (.dic kvs) => match b with
      | .len => some (.int kvs.length)
      | .sorted => (keysI kvs).bind fun ns => g (decide (ns.length < 64)) (.lst (nums (sortI ns)))
      | _ => none
    | _ => none
  | vs => (allF vs).bind fun fs => bltF b fs
def isiS (sub : Nat → Nat → Option Bool) (st : Store) (pv : PV) (t : TY) : Option Bool := match pv with
  | .f v => isiF sub v t
  | .r n => match st[n]?, t with
    | some (.lst _), .list => some true
    | some (.lst _), .int => some false
    | some (.lst _), .bool => some false
    | some (.lst _), .tuple => some false
    | some (.dic _), .list => some false
    | some (.dic _), .int => some false
    | some (.dic _), .bool => some false
    | some (.dic _), .tuple => some false
    | _, _ => none
def bmF : BM → FV → List FV → Option FV
  | .count, .lst xs, [.int k] => (allInts xs).map fun ns => .int (ns.count k)
  | .join, .str s, [.lst xs] => (allStrs xs).bind fun ss => g (decide ((ss.map List.length).sum + ss.length * s.length ≤ line)) (.str (joinS s ss))
  | _, _, _ => none
def bmT : BM → FV → Bool
  | .count, .lst _ => true
  | .join, .str _ => true
  | _, _ => false
/-- the class of a thing -/
def clsOf (st : Store) : PV → Option Nat
  | .f (.ins c _) => some c
  | .r n => match st[n]? with
    | some (.ins c _) => some c
    | _ => none
  | _ => none
def fldOf (st : Store) (c k : Nat) : PV → Option PV
  | .f (.ins c' fs) => if c' = c then fs[k]?.map .f else none
  | .r n => match st[n]? with
    | some (.ins c' fs) => if c' = c then fs[k]? else none
    | _ => none
  | _ => none
def bindT (env : Env) : List Nat → FV → Option Env
  | [i], v => some (env.set i (some (.f v)))
  | [i, j], .tup [a, b] => some ((env.set i (some (.f a))).set j (some (.f b)))
  | [i, j, k], .tup [a, b, c] => some (((env.set i (some (.f a))).set j (some (.f b))).set k (some (.f c)))
  | _, _ => none
def wipeE (env : Env) : List Nat → Env
  | [] => env
  | i :: r => (wipeE env r).set i none
/-- a comprehension's turns -/
def lcL (h : FV → Store → R (Option FV)) : List FV → List FV → Store → R (List FV)
  | [], acc, st => .ok acc st
  | x :: xs, acc, st => if acc.length < line then match h x st with
    | .ok (some v) st => lcL h xs (acc ++ [v]) st
    | .ok none st => lcL h xs acc st
    | _ => .bad
    else .bad
def seqOf : FV → Option (List FV)
  | .tup xs => some xs
  | .lst xs => some xs
  | .scr ns => some (nums ns)
  | .str s => some (s.map fun c => .str [c])
  | _ => none
def rangeL (a c : Int) : Nat → List FV
  | 0 => []
  | n + 1 => .int a :: rangeL (a + c) c n
def enumL : Nat → List FV → List FV
  | _, [] => []
  | n, x :: xs => .tup [.int n, x] :: enumL (n + 1) xs
def zipL : List FV → List FV → List FV
  | x :: xs, y :: ys => .tup [x, y] :: zipL xs ys
  | _, _ => []
def R.fr (r : R PV) (k : FV → Store → R PV) : R PV := r.bind fun pv st => pv.fr st k
def R.frI (r : R PV) (k : FV → Store → R (List FV)) : R (List FV) := r.bind fun pv st => match pv with
  | .f v => k v st
  | .r _ => .bad
def R.tst {α : Type} (r : R PV) (k : Bool → Store → R α) : R α := r.bind fun pv st => match pv with
  | .f (.bl b) => k b st
  | _ => .bad
abbrev Call := Nat → List PV → Store → R PV
noncomputable section
open Classical
/-- behind a new instance's __init__ -/
def made (z : Bool) (c : Nat) (st st2 : Store) : R PV :=
  if z = true then R.of (if st2.take st.length = st then (match st2[st.length]? with
    | some (.ins c' fs) => if c' = c then (allF fs).map fun fs => .f (.ins c fs) else none
    | _ => none) else none) st
  else .ok (.r st.length) st2
variable (sub : Nat → Nat → Option Bool) (Γ : Call)
mutual
def evE : E → Env → Store → R PV
  | .v i, env, st => match env[i]? with
    | some (some pv) => .ok pv st
    | _ => .bad
  | .k c, _, st => .ok (.f c) st
  | .bin o a b, env, st => (evE a env st).fr fun x st => (evE b env st).fr fun y st => R.of ((binop o x y).map .f) st
  | .cmp o a b, env, st => (evE a env st).bind fun x st => (evE b env st).bind fun y st => R.of ((cmpS st o x y).map fun b => .f (.bl b)) st
  | .chain o p a b c, env, st => (evE a env st).bind fun x st => (evE b env st).bind fun y st => (R.of (cmpS st o x y) st).bind fun k st =>
    if k = true then (evE c env st).bind fun z st => R.of ((cmpS st p y z).map fun b => .f (.bl b)) st else .ok (.f (.bl false)) st
  | .and a b, env, st => (evE a env st).tst fun k st => if k = true then evE b env st else .ok (.f (.bl false)) st
  | .or a b, env, st => (evE a env st).tst fun k st => if k = true then .ok (.f (.bl true)) st else evE b env st
  | .not a, env, st => (evE a env st).tst fun k st => .ok (.f (.bl (!k))) st
  | .neg a, env, st => (evE a env st).fr fun x st => R.of (x.toInt?.map fun i => .f (.int (-i))) st
  | .ite c a b, env, st => (evE c env st).tst fun k st => if k = true then evE a env st else evE b env st
  | .tup es, env, st => (evEs es env st).bind fun vs st => R.of ((allF vs).map fun fs => .f (.tup fs)) st
  | .lst es, env, st => (evEs es env st).bind fun vs st => R.of ((allF vs).map fun fs => .f (.lst fs)) st
  | .mlst es, env, st => (evEs es env st).bind fun vs st => .ok (.r st.length) (st ++ [.lst vs])
  | .mdic ks es, env, st => (evEs es env st).bind fun vs st => .ok (.r st.length) (st ++ [.dic (ks.zip vs)])
  | .ix a i, env, st => (evE a env st).bind fun x st => (evE i env st).fr fun y st => R.of (ixS st x y) st
  | .dget a i, env, st => (evE a env st).bind fun x st => (evE i env st).fr fun y st => R.of (dgetS st x y) st
  | .din a b, env, st => (evE a env st).fr fun x st => (evE b env st).bind fun y st => R.of ((dinS st x y).map fun b => .f (.bl b)) st
  | .dnot a b, env, st => (evE a env st).fr fun x st => (evE b env st).bind fun y st => R.of ((dinS st x y).map fun b => .f (.bl (!b))) st
  | .cutTo a hi, env, st => (evE a env st).fr fun x st => (evE hi env st).fr fun y st => R.of (y.toInt?.bind fun i => (cutF x none (some i)).map .f) st
  | .cutFrom a lo, env, st => (evE a env st).fr fun x st => (evE lo env st).fr fun y st => R.of (y.toInt?.bind fun i => (cutF x (some i) none).map .f) st
  | .cut a lo hi, env, st => (evE a env st).fr fun x st => (evE lo env st).fr fun y st => (R.of y.toInt? st).bind fun i st => (evE hi env st).fr fun z st => R.of (z.toInt?.bind fun j => (cutF x (some i) (some j)).map .f) st
  | .fld c k a, env, st => (evE a env st).bind fun x st => R.of (fldOf st c k x) st
  | .call f es, env, st => (evEs es env st).bind fun vs st => Γ f vs st
  | .meth c f o es, env, st => (evE o env st).bind fun x st => if clsOf st x = some c then (evEs es env st).bind fun vs st => Γ f (x :: vs) st else .bad
  | .make z c f es ds, env, st => (evEs es env st).bind fun vs st => match Γ f (.r st.length :: (vs ++ ds.map .f)) (st ++ [.ins c []]) with
    | .ok (.f .non) st2 => made z c st st2
    | .exc e st2 => if z = true then (if st2.take st.length = st then .exc e st else .bad) else .exc e st2
    | _ => .bad
  | .blt b es, env, st => (evEs es env st).bind fun vs st => R.of ((bltS st b vs).map .f) st
  | .isi a t, env, st => (evE a env st).bind fun x st => R.of ((isiS sub st x t).map fun b => .f (.bl b)) st
  | .bm m o es, env, st => (evE o env st).fr fun x st => if bmT m x = true then (evEs es env st).bind fun vs st => R.of ((allF vs).bind fun fs => (bmF m x fs).map .f) st else .bad
  | .lc elt tg it, env, st => (evIT it env st).bind fun xs st => (lcL (fun x st => match bindT (wipeE env tg) tg x with
      | some env' => (evE elt env' st).bind fun pv st => match pv with | .f v => .ok (some v) st | .r _ => .bad
      | none => .bad) xs [] st).bind fun vs st => .ok (.f (.lst vs)) st
  | .lcIf elt tg it c, env, st => (evIT it env st).bind fun xs st => (lcL (fun x st => match bindT (wipeE env tg) tg x with
      | some env' => (evE c env' st).tst fun k st => if k = true then (evE elt env' st).bind fun pv st => match pv with | .f v => .ok (some v) st | .r _ => .bad else .ok none st
      | none => .bad) xs [] st).bind fun vs st => .ok (.f (.lst vs)) st
def evEs : Es → Env → Store → R (List PV)
  | .nil, _, st => .ok [] st
  | .cons e es, env, st => (evE e env st).bind fun v st => (evEs es env st).bind fun vs st => .ok (v :: vs) st
def evIT : IT → Env → Store → R (List FV)
  | .seq e, env, st => (evE e env st).frI fun x st => R.of (seqOf x) st
  | .range e, env, st => (evE e env st).frI fun x st => R.of (x.toInt?.bind fun n => g (decide (-(2 ^ 62) ≤ n ∧ n < 2 ^ 62)) (rangeL 0 1 n.toNat)) st
  | .rangeS a b c, env, st => (evE a env st).frI fun x st => (evE b env st).frI fun y st => (evE c env st).frI fun z st => R.of (x.toInt?.bind fun i => y.toInt?.bind fun j => z.toInt?.bind fun k =>
      g (decide (0 ≤ i ∧ i < 2 ^ 62 ∧ 0 ≤ j ∧ j < 2 ^ 62 ∧ 0 < k ∧ k < 1073741824)) (rangeL i k ((j - i + k - 1) / k).toNat)) st
  | .enum e, env, st => (evE e env st).frI fun x st => match x with
    | .lst xs => .ok (enumL 0 xs) st
    | .scr ns => .ok (enumL 0 (nums ns)) st
    | _ => .bad
  | .zip a b, env, st => (evE a env st).frI fun x st => (evE b env st).frI fun y st => match x, y with
    | .lst xs, .lst ys => .ok (zipL xs ys) st
    | _, _ => .bad
end
inductive SR where
  | nx (env : Env) (st : Store) | rt (v : PV) (st : Store) | exc (c : Nat) (env : Env) (st : Store) | bad
def R.s {α : Type} (r : R α) (env : Env) (k : α → Store → SR) : SR := match r with
  | .ok v st => k v st
  | .exc c st => .exc c env st
  | .bad => .bad
def SR.bind (r : SR) (k : Env → Store → SR) : SR := match r with
  | .nx env st => k env st
  | .rt v st => .rt v st
  | .exc c env st => .exc c env st
  | .bad => .bad
def SR.of {α : Type} (o : Option α) (k : α → SR) : SR := match o with
  | some v => k v
  | none => .bad
def whlL (t : Env → Store → R PV) (b : Env → Store → SR) : Nat → Env → Store → SR
  | 0, _, _ => .bad
  | n + 1, env, st => (t env st).s env fun pv st => match pv with
    | .f (.bl true) => (b env st).bind fun env st => whlL t b n env st
    | .f (.bl false) => .nx env st
    | _ => .bad
def forL (b : FV → Env → Store → SR) : List FV → Env → Store → SR
  | [], env, st => .nx env st
  | x :: xs, env, st => (b x env st).bind fun env st => forL b xs env st
def putS (st : Store) (a : PV) (k : FV) (w : PV) : Option Store := match a with
  | .r n => match st[n]? with
    | some (.lst xs) => match k with
      | .int i => (setIxN xs.length i).map fun j => st.set n (.lst (xs.set j w))
      | _ => none
    | some (.dic kvs) => (keyOf k).bind fun q => g (decide (kvs.length < line)) (st.set n (.dic (dput q w kvs)))
    | _ => none
  | .f _ => none
def setFldS (st : Store) (c k : Nat) (a : PV) (w : PV) : Option Store := match a with
  | .r n => match st[n]? with
    | some (.ins c' fs) => if c' = c then (if k < fs.length then some (st.set n (.ins c (fs.set k w))) else if k = fs.length then some (st.set n (.ins c (fs ++ [w]))) else none) else none
    | _ => none
  | .f _ => none
def isLst (st : Store) : PV → Bool
  | .r n => match st[n]? with
    | some (.lst _) => true
    | _ => false
  | .f _ => false
def appS (st : Store) (a : PV) (w : PV) : Option Store := match a with
  | .r n => match st[n]? with
    | some (.lst xs) => g (decide (xs.length < line)) (st.set n (.lst (xs ++ [w])))
    | _ => none
  | .f _ => none
variable (W : Nat)
mutual
def exS : S → Env → Store → SR
  | .set i e, env, st => (evE sub Γ e env st).s env fun v st => .nx (env.set i (some v)) st
  | .unp is e, env, st => (evE sub Γ e env st).s env fun v st => match v with
    | .f x => SR.of (bindT env is x) fun env => .nx env st
    | .r _ => .bad
  | .par i j a b, env, st => (evE sub Γ a env st).s env fun v st => (evE sub Γ b env st).s env fun w st => .nx ((env.set i (some v)).set j (some w)) st
  | .setIx a i e, env, st => (evE sub Γ e env st).s env fun v st => (evE sub Γ a env st).s env fun x st => (evE sub Γ i env st).s env fun y st => match y with
    | .f k => SR.of (putS st x k v) fun st => .nx env st
    | _ => .bad
  | .setIx2 a i b j e, env, st => (evE sub Γ e env st).s env fun v st => match v with
    | .f (.tup [p, q]) => (evE sub Γ a env st).s env fun x st => (evE sub Γ i env st).s env fun y st => match y with
      | .f k => SR.of (putS st x k (.f p)) fun st => (evE sub Γ b env st).s env fun x st => (evE sub Γ j env st).s env fun y st => match y with
        | .f k => SR.of (putS st x k (.f q)) fun st => .nx env st
        | _ => .bad
      | _ => .bad
    | _ => .bad
  | .setFld c k a e, env, st => (evE sub Γ e env st).s env fun v st => (evE sub Γ a env st).s env fun x st => SR.of (setFldS st c k x v) fun st => .nx env st
  | .augFld c k o a e, env, st => (evE sub Γ a env st).s env fun x st => (R.of (fldOf st c k x) st).s env fun v st => (evE sub Γ e env st).s env fun w st => match v, w with
    | .f v, .f w => SR.of (binop o v w) fun z => SR.of (setFldS st c k x (.f z)) fun st => .nx env st
    | _, _ => .bad
  | .aug i o e, env, st => match env[i]? with
    | some (some (.f x)) => (evE sub Γ e env st).s env fun w st => match w with
      | .f w => SR.of (binop o x w) fun z => .nx (env.set i (some (.f z))) st
      | _ => .bad
    | _ => .bad
  | .app a e, env, st => (evE sub Γ a env st).s env fun x st => if isLst st x = true then (evE sub Γ e env st).s env fun v st => SR.of (appS st x v) fun st => .nx env st else .bad
  | .ifs c t f, env, st => (evE sub Γ c env st).s env fun v st => match v with
    | .f (.bl true) => exB t env st
    | .f (.bl false) => exB f env st
    | _ => .bad
  | .whl c b, env, st => whlL (evE sub Γ c) (exB b) W env st
  | .fors tg it b, env, st => (evIT sub Γ it env st).s env fun xs st => forL (fun x env st => SR.of (bindT env tg x) fun env => exB b env st) xs env st
  | .ret e, env, st => (evE sub Γ e env st).s env fun v st => .rt v st
  | .ex e, env, st => (evE sub Γ e env st).s env fun _ st => .nx env st
  | .raise c, env, st => .exc c env st
  | .tryKeep b c y i, env, st => match exB b env st with
    | .exc c' env' st' => if sub c' c = some true then .nx ((env'.set y (some (.f (.exc c')))).set i none) st' else .bad
    | r => r
  | .pass, env, st => .nx env st
def exB : Bk → Env → Store → SR
  | .nil, env, st => .nx env st
  | .cons s b, env, st => (exS s env st).bind fun env st => exB b env st
end
def env0 (d : Def) (args : List PV) : Env := args.map some ++ List.replicate (d.ns - args.length) none
def leave (d : Def) (st : Store) (r : SR) : R PV := 
  if d.pure = true then match r with
    | .nx _ st2 => if st2.take st.length = st then .ok (.f .non) st else .bad
    | .rt (.f v) st2 => if st2.take st.length = st then .ok (.f v) st else .bad
    | .rt (.r n) st2 => if st2.take st.length = st ∧ st.length ≤ n then (match st2[n]? with
      | some (.lst xs) => R.of ((allF xs).map fun fs => .f (.lst fs)) st
      | some (.ins c xs) => R.of ((allF xs).map fun fs => .f (.ins c fs)) st
      | _ => .bad) else .bad
    | .exc c _ st2 => if st2.take st.length = st then .exc c st else .bad
    | .bad => .bad
  else match r with
    | .nx _ st2 => .ok (.f .non) st2
    | .rt v st2 => .ok v st2
    | .exc c _ st2 => .exc c st2
    | .bad => .bad
def run (sub : Nat → Nat → Option Bool) (W : Nat) (prog : Nat → Option Def) : Nat → Call
  | 0, _, _, _ => .bad
  | n + 1, f, args, st => match prog f with
    | some d => if args.length = d.np then leave d st (exB sub (run sub W prog n) W d.body (env0 d args) st) else .bad
    | none => .bad
end
end MP

namespace MP
open Fk
/-! own parts in the machine -/
def encO : Own → FV
  | .leaf b => .int (bi b)
  | .node l r => .tup [encO l, encO r]
theorem encO_leaf (b : Bool) : encO (.leaf b) = .int (bi b) := rfl
theorem encO_node (l r : Own) : encO (.node l r) = .tup [encO l, encO r] := rfl
theorem encO_data : ∀ o : Own, (encO o).data = true
  | .leaf b => by simp [encO, FV.data]
  | .node l r => by simp [encO, FV.data, FV.datas, encO_data l, encO_data r]
theorem encO_depth : ∀ o : Own, (encO o).depth = o.depth
  | .leaf b => by simp [encO, FV.depth, Own.depth]
  | .node l r => by simp [encO, FV.depth, FV.depths, Own.depth, encO_depth l, encO_depth r]
theorem encO_okd {o : Own} (h : o.depth ≤ 60) : (encO o).okd = true := by
  unfold FV.okd
  rw [encO_data, encO_depth, decide_eq_true h]
  rfl
theorem encO_eqv : ∀ a b : Own, (encO a).eqv (encO b) = decide (a = b)
  | .leaf a, .leaf b => by cases a <;> cases b <;> rfl
  | .leaf a, .node l r => by simp [encO, FV.eqv]
  | .node l r, .leaf b => by simp [encO, FV.eqv]
  | .node l r, .node l' r' => by
    simp only [encO, FV.eqv, FV.eqvs, encO_eqv l l', encO_eqv r r', Own.node.injEq, Bool.and_true]
    by_cases h1 : l = l' <;> by_cases h2 : r = r' <;> simp [h1, h2]
theorem eqv0 (a : Own) : (encO a).eqv (.int 0) = decide (a = .leaf false) := encO_eqv a (.leaf false)
theorem eqv1 (a : Own) : (encO a).eqv (.int 1) = decide (a = .leaf true) := encO_eqv a (.leaf true)
theorem encO_isi (sub : Nat → Nat → Option Bool) (st : Store) : ∀ o : Own, isiS sub st (.f (encO o)) .tuple = some o.isNode
  | .leaf _ => rfl
  | .node _ _ => rfl
theorem okd_int (i : Int) : (FV.int i).okd = true := rfl
end MP

namespace MP
def d_paired : Def := ⟨2, 2, (.cons (.ifs (.and (.cmp .eq (.v 0) (.v 1)) (.not (.isi (.v 0) .tuple))) (.cons (.ret (.v 0))
  .nil) .nil)
  (.cons (.ret (.tup (.cons (.v 0) (.cons (.v 1) .nil))))
  .nil)), true⟩
def d_parted : Def := ⟨1, 5, (.cons (.ifs (.cmp .eq (.v 0) (.k (.int 0))) (.cons (.ret (.tup (.cons (.k (.int 0)) (.cons (.k (.int 0)) .nil))))
  .nil) .nil)
  (.cons (.ifs (.cmp .eq (.v 0) (.k (.int 1))) (.cons (.ret (.tup (.cons (.tup (.cons (.k (.int 1)) (.cons (.k (.int 0)) .nil))) (.cons (.tup (.cons (.k (.int 0)) (.cons (.k (.int 1)) .nil))) .nil))))
  .nil) .nil)
  (.cons (.unp [1, 2] (.v 0))
  (.cons (.ifs (.cmp .eq (.v 1) (.k (.int 0))) (.cons (.unp [3, 4] (.call 13 (.cons (.v 2) .nil)))
  (.cons (.ret (.tup (.cons (.tup (.cons (.k (.int 0)) (.cons (.v 3) .nil))) (.cons (.tup (.cons (.k (.int 0)) (.cons (.v 4) .nil))) .nil))))
  .nil)) .nil)
  (.cons (.ifs (.cmp .eq (.v 2) (.k (.int 0))) (.cons (.unp [3, 4] (.call 13 (.cons (.v 1) .nil)))
  (.cons (.ret (.tup (.cons (.tup (.cons (.v 3) (.cons (.k (.int 0)) .nil))) (.cons (.tup (.cons (.v 4) (.cons (.k (.int 0)) .nil))) .nil))))
  .nil)) .nil)
  (.cons (.ret (.tup (.cons (.tup (.cons (.v 1) (.cons (.k (.int 0)) .nil))) (.cons (.tup (.cons (.k (.int 0)) (.cons (.v 2) .nil))) .nil))))
  .nil)))))), true⟩
def d_shares : Def := ⟨2, 2, (.cons (.ifs (.or (.cmp .eq (.v 0) (.k (.int 0))) (.cmp .eq (.v 1) (.k (.int 0)))) (.cons (.ret (.k (.bl false)))
  .nil) .nil)
  (.cons (.ifs (.or (.cmp .eq (.v 0) (.k (.int 1))) (.cmp .eq (.v 1) (.k (.int 1)))) (.cons (.ret (.k (.bl true)))
  .nil) .nil)
  (.cons (.ret (.or (.call 14 (.cons (.ix (.v 0) (.k (.int 0))) (.cons (.ix (.v 1) (.k (.int 0))) .nil))) (.call 14 (.cons (.ix (.v 0) (.k (.int 1))) (.cons (.ix (.v 1) (.k (.int 1))) .nil)))))
  .nil))), true⟩
def d_together : Def := ⟨2, 2, (.cons (.ifs (.cmp .eq (.v 0) (.k (.int 0))) (.cons (.ret (.v 1))
  .nil) .nil)
  (.cons (.ifs (.cmp .eq (.v 1) (.k (.int 0))) (.cons (.ret (.v 0))
  .nil) .nil)
  (.cons (.ifs (.or (.cmp .eq (.v 0) (.k (.int 1))) (.cmp .eq (.v 1) (.k (.int 1)))) (.cons (.raise 13)
  .nil) .nil)
  (.cons (.ret (.call 4 (.cons (.call 15 (.cons (.ix (.v 0) (.k (.int 0))) (.cons (.ix (.v 1) (.k (.int 0))) .nil))) (.cons (.call 15 (.cons (.ix (.v 0) (.k (.int 1))) (.cons (.ix (.v 1) (.k (.int 1))) .nil))) .nil))))
  .nil)))), true⟩
def d__law_mixed : Def := ⟨2, 3, (.cons (.set 2 (.bin .add (.bin .mod (.bin .mul (.bin .add (.bin .mod (.v 0) (.bin .pow (.k (.int 10)) (.k (.int 60)))) (.k (.int 17))) (.k (.int 48271))) (.k (.int 2147483647))) (.bin .mul (.k (.int 5)) (.v 1))))
  (.cons (.ret (.bin .fdiv (.bin .mod (.bin .mul (.v 2) (.bin .add (.k (.int 16807)) (.bin .mul (.bin .mul (.k (.int 1033)) (.v 1)) (.v 1)))) (.k (.int 2147483629))) (.k (.int 4))))
  .nil)), true⟩
def d__law_own : Def := ⟨2, 3, (.cons (.set 2 (.bin .fdiv (.v 0) (.k (.int 5))))
  (.cons (.ifs (.or (.cmp .eq (.v 1) (.k (.int 0))) (.cmp .lt (.bin .mod (.v 0) (.k (.int 5))) (.k (.int 2)))) (.cons (.ret (.bin .mod (.v 0) (.k (.int 2))))
  .nil) .nil)
  (.cons (.ret (.tup (.cons (.call 8 (.cons (.bin .mod (.bin .mul (.v 2) (.k (.int 16807))) (.k (.int 1000003))) (.cons (.bin .sub (.v 1) (.k (.int 1))) .nil))) (.cons (.call 8 (.cons (.bin .mod (.bin .mul (.v 2) (.k (.int 48271))) (.k (.int 1000033))) (.cons (.bin .sub (.v 1) (.k (.int 1))) .nil))) .nil))))
  .nil))), true⟩
def d__law_places : Def := ⟨2, 2, (.cons (.ifs (.cmp .eq (.v 1) (.k (.int 0))) (.cons (.ret (.lst (.cons (.v 0) .nil)))
  .nil) .nil)
  (.cons (.ifs (.cmp .isin (.v 0) (.tup (.cons (.k (.int 0)) (.cons (.k (.int 1)) .nil)))) (.cons (.ret (.bin .add (.call 9 (.cons (.v 0) (.cons (.bin .sub (.v 1) (.k (.int 1))) .nil))) (.call 9 (.cons (.v 0) (.cons (.bin .sub (.v 1) (.k (.int 1))) .nil)))))
  .nil) .nil)
  (.cons (.ret (.bin .add (.call 9 (.cons (.ix (.v 0) (.k (.int 0))) (.cons (.bin .sub (.v 1) (.k (.int 1))) .nil))) (.call 9 (.cons (.ix (.v 0) (.k (.int 1))) (.cons (.bin .sub (.v 1) (.k (.int 1))) .nil)))))
  .nil))), true⟩
def d__law_own_of : Def := ⟨1, 2, (.cons (.ifs (.cmp .eq (.bm .count (.v 0) (.cons (.ix (.v 0) (.k (.int 0))) .nil)) (.blt .len (.cons (.v 0) .nil))) (.cons (.ret (.ix (.v 0) (.k (.int 0))))
  .nil) .nil)
  (.cons (.set 1 (.bin .fdiv (.blt .len (.cons (.v 0) .nil)) (.k (.int 2))))
  (.cons (.ret (.tup (.cons (.call 10 (.cons (.cutTo (.v 0) (.v 1)) .nil)) (.cons (.call 10 (.cons (.cutFrom (.v 0) (.v 1)) .nil)) .nil))))
  .nil))), true⟩
def d__law_word : Def := ⟨1, 2, (.cons (.ifs (.or (.not (.isi (.v 0) (.cls 10))) (.not (.isi (.v 0) .valueError))) (.cons (.ret (.k (.str [110, 111, 110, 101])))
  .nil) .nil)
  (.cons (.set 1 (.bin .add (.bin .mul (.lst (.cons (.k (.str [111, 119, 110])) .nil)) (.blt .int (.cons (.isi (.v 0) (.cls 11)) .nil))) (.bin .mul (.lst (.cons (.k (.str [116, 111, 108, 100])) .nil)) (.blt .int (.cons (.isi (.v 0) (.cls 12)) .nil)))))
  (.cons (.set 1 (.bin .add (.bin .add (.v 1) (.bin .mul (.lst (.cons (.k (.str [115, 104, 97, 114, 101, 100])) .nil)) (.blt .int (.cons (.isi (.v 0) (.cls 13)) .nil)))) (.bin .mul (.lst (.cons (.k (.str [110, 111, 32, 111, 119, 110])) .nil)) (.blt .int (.cons (.isi (.v 0) (.cls 14)) .nil)))))
  (.cons (.set 1 (.bin .add (.bin .add (.v 1) (.bin .mul (.lst (.cons (.k (.str [114, 111, 119])) .nil)) (.blt .int (.cons (.isi (.v 0) (.cls 15)) .nil)))) (.bin .mul (.lst (.cons (.k (.str [104, 97, 110, 100])) .nil)) (.blt .int (.cons (.isi (.v 0) (.cls 16)) .nil)))))
  (.cons (.ret (.bm .join (.k (.str [47])) (.cons (.v 1) .nil)))
  .nil))))), true⟩
def d_is_whole : Def := ⟨1, 1, (.cons (.ret (.and (.isi (.v 0) .int) (.not (.isi (.v 0) .bool))))
  .nil), true⟩
def d_is_told : Def := ⟨1, 1, (.cons (.ifs (.isi (.v 0) .tuple) (.cons (.ret (.and (.cmp .eq (.blt .len (.cons (.v 0) .nil)) (.k (.int 3))) (.and (.call 20 (.cons (.ix (.v 0) (.k (.int 0))) .nil)) (.and (.call 19 (.cons (.ix (.v 0) (.k (.int 1))) .nil)) (.call 19 (.cons (.ix (.v 0) (.k (.int 2))) .nil))))))
  .nil) .nil)
  (.cons (.ret (.call 20 (.cons (.v 0) .nil)))
  .nil)), true⟩
def d_is_number : Def := ⟨1, 1, (.cons (.ret (.and (.call 1 (.cons (.v 0) .nil)) (.cmp .ge (.v 0) (.k (.int 0)))))
  .nil), true⟩
def d_is_least_told : Def := ⟨1, 1, (.cons (.ret (.and (.call 19 (.cons (.v 0) .nil)) (.cmp .eq (.call 25 (.cons (.v 0) .nil)) (.v 0))))
  .nil), true⟩
def d_lifted : Def := ⟨2, 2, (.cons (.ifs (.isi (.v 0) .tuple) (.cons (.ret (.tup (.cons (.bin .add (.ix (.v 0) (.k (.int 0))) (.v 1)) (.cons (.ix (.v 0) (.k (.int 1))) (.cons (.ix (.v 0) (.k (.int 2))) .nil)))))
  .nil) .nil)
  (.cons (.ret (.bin .add (.v 0) (.v 1)))
  .nil)), true⟩
def d_base : Def := ⟨1, 1, (.cons (.ifs (.isi (.v 0) .tuple) (.cons (.ret (.ix (.v 0) (.k (.int 0))))
  .nil) .nil)
  (.cons (.ret (.v 0))
  .nil)), true⟩
def d_spread : Def := ⟨3, 4, (.cons (.ifs (.and (.cmp .eq (.v 1) (.v 2)) (.not (.isi (.v 1) .tuple))) (.cons (.ret (.bin .add (.v 0) (.v 1)))
  .nil) .nil)
  (.cons (.set 3 (.blt .min (.cons (.call 23 (.cons (.v 1) .nil)) (.cons (.call 23 (.cons (.v 2) .nil)) .nil))))
  (.cons (.ret (.tup (.cons (.bin .add (.v 0) (.v 3)) (.cons (.call 22 (.cons (.v 1) (.cons (.neg (.v 3)) .nil))) (.cons (.call 22 (.cons (.v 2) (.cons (.neg (.v 3)) .nil))) .nil)))))
  .nil))), true⟩
def d_least_told : Def := ⟨1, 1, (.cons (.ifs (.not (.isi (.v 0) .tuple)) (.cons (.ret (.v 0))
  .nil) .nil)
  (.cons (.ret (.call 24 (.cons (.ix (.v 0) (.k (.int 0))) (.cons (.call 25 (.cons (.ix (.v 0) (.k (.int 1))) .nil)) (.cons (.call 25 (.cons (.ix (.v 0) (.k (.int 2))) .nil)) .nil)))))
  .nil)), true⟩
def d_told_least : Def := ⟨1, 1, (.cons (.ret (.call 23 (.cons (.v 0) .nil)))
  .nil), true⟩
def d_told_greatest : Def := ⟨1, 1, (.cons (.ifs (.isi (.v 0) .tuple) (.cons (.ret (.bin .add (.ix (.v 0) (.k (.int 0))) (.blt .max (.cons (.call 27 (.cons (.ix (.v 0) (.k (.int 1))) .nil)) (.cons (.call 27 (.cons (.ix (.v 0) (.k (.int 2))) .nil)) .nil)))))
  .nil) .nil)
  (.cons (.ret (.v 0))
  .nil)), true⟩
def d__law_tree : Def := ⟨3, 6, (.cons (.set 3 (.bin .fdiv (.v 1) (.k (.int 5))))
  (.cons (.set 4 (.ix (.lst (.cons (.bin .mod (.bin .fdiv (.v 3) (.k (.int 3))) (.k (.int 3))) (.cons (.bin .mod (.v 0) (.bin .pow (.k (.int 10)) (.k (.int 60)))) .nil))) (.bin .fdiv (.bin .mod (.bin .fdiv (.v 3) (.k (.int 9))) (.k (.int 4))) (.k (.int 3)))))
  (.cons (.ifs (.or (.cmp .eq (.v 2) (.k (.int 0))) (.cmp .lt (.bin .mod (.v 1) (.k (.int 5))) (.k (.int 2)))) (.cons (.ret (.v 4))
  .nil) .nil)
  (.cons (.set 5 (.call 28 (.cons (.v 0) (.cons (.bin .mod (.bin .mul (.v 3) (.k (.int 16807))) (.k (.int 1000003))) (.cons (.bin .sub (.v 2) (.k (.int 1))) .nil)))))
  (.cons (.ret (.tup (.cons (.v 4) (.cons (.v 5) (.cons (.call 28 (.cons (.bin .fdiv (.v 0) (.k (.int 3))) (.cons (.bin .mod (.bin .mul (.v 3) (.k (.int 48271))) (.k (.int 1000033))) (.cons (.bin .sub (.v 2) (.k (.int 1))) .nil)))) .nil)))))
  .nil))))), true⟩
def d__law_numbers : Def := ⟨2, 3, (.cons (.ifs (.cmp .eq (.v 1) (.k (.int 0))) (.cons (.ret (.lst (.cons (.v 0) .nil)))
  .nil) .nil)
  (.cons (.ifs (.not (.isi (.v 0) .tuple)) (.cons (.ret (.bin .add (.call 29 (.cons (.v 0) (.cons (.bin .sub (.v 1) (.k (.int 1))) .nil))) (.call 29 (.cons (.v 0) (.cons (.bin .sub (.v 1) (.k (.int 1))) .nil)))))
  .nil) .nil)
  (.cons (.ret (.lc (.bin .add (.ix (.v 0) (.k (.int 0))) (.v 2)) [2] (.seq (.bin .add (.call 29 (.cons (.ix (.v 0) (.k (.int 1))) (.cons (.bin .sub (.v 1) (.k (.int 1))) .nil))) (.call 29 (.cons (.ix (.v 0) (.k (.int 2))) (.cons (.bin .sub (.v 1) (.k (.int 1))) .nil)))))))
  .nil))), true⟩
def d__law_told_of : Def := ⟨1, 5, (.cons (.set 1 (.blt .min (.cons (.v 0) .nil)))
  (.cons (.ifs (.cmp .eq (.bm .count (.v 0) (.cons (.v 1) .nil)) (.blt .len (.cons (.v 0) .nil))) (.cons (.ret (.v 1))
  .nil) .nil)
  (.cons (.set 2 (.bin .fdiv (.blt .len (.cons (.v 0) .nil)) (.k (.int 2))))
  (.cons (.set 3 (.lc (.bin .sub (.v 4) (.v 1)) [4] (.seq (.v 0))))
  (.cons (.ret (.tup (.cons (.v 1) (.cons (.call 30 (.cons (.cutTo (.v 3) (.v 2)) .nil)) (.cons (.call 30 (.cons (.cutFrom (.v 3) (.v 2)) .nil)) .nil)))))
  .nil))))), true⟩
def d_halves : Def := ⟨1, 1, (.cons (.ifs (.isi (.v 0) .tuple) (.cons (.ret (.tup (.cons (.call 22 (.cons (.ix (.v 0) (.k (.int 1))) (.cons (.ix (.v 0) (.k (.int 0))) .nil))) (.cons (.call 22 (.cons (.ix (.v 0) (.k (.int 2))) (.cons (.ix (.v 0) (.k (.int 0))) .nil))) .nil))))
  .nil) .nil)
  (.cons (.ret (.tup (.cons (.v 0) (.cons (.v 0) .nil))))
  .nil)), true⟩
def d_at_most : Def := ⟨2, 6, (.cons (.ifs (.not (.isi (.v 0) .tuple)) (.cons (.ret (.cmp .le (.v 0) (.call 26 (.cons (.v 1) .nil))))
  .nil) .nil)
  (.cons (.ifs (.not (.isi (.v 1) .tuple)) (.cons (.ret (.cmp .le (.call 27 (.cons (.v 0) .nil)) (.v 1)))
  .nil) .nil)
  (.cons (.unp [2, 3] (.call 32 (.cons (.v 0) .nil)))
  (.cons (.unp [4, 5] (.call 32 (.cons (.v 1) .nil)))
  (.cons (.ret (.and (.call 33 (.cons (.v 2) (.cons (.v 4) .nil))) (.call 33 (.cons (.v 3) (.cons (.v 5) .nil)))))
  .nil))))), true⟩
def d_filled : Def := ⟨2, 4, (.cons (.ifs (.or (.cmp .eq (.v 0) (.k (.int 0))) (.not (.isi (.v 1) .tuple))) (.cons (.ret (.v 1))
  .nil) .nil)
  (.cons (.ifs (.cmp .eq (.v 0) (.k (.int 1))) (.cons (.ret (.call 27 (.cons (.v 1) .nil)))
  .nil) .nil)
  (.cons (.unp [2, 3] (.call 32 (.cons (.v 1) .nil)))
  (.cons (.ifs (.cmp .eq (.ix (.v 0) (.k (.int 0))) (.k (.int 1))) (.cons (.set 3 (.call 36 (.cons (.ix (.v 0) (.k (.int 1))) (.cons (.v 3) .nil))))
  (.cons (.set 2 (.blt .max (.cons (.call 27 (.cons (.v 2) .nil)) (.cons (.call 26 (.cons (.v 3) .nil)) .nil))))
  .nil)) (.cons (.ifs (.cmp .eq (.ix (.v 0) (.k (.int 1))) (.k (.int 1))) (.cons (.set 2 (.call 36 (.cons (.ix (.v 0) (.k (.int 0))) (.cons (.v 2) .nil))))
  (.cons (.set 3 (.blt .max (.cons (.call 27 (.cons (.v 3) .nil)) (.cons (.call 26 (.cons (.v 2) .nil)) .nil))))
  .nil)) (.cons (.par 2 3 (.call 36 (.cons (.ix (.v 0) (.k (.int 0))) (.cons (.v 2) .nil))) (.call 36 (.cons (.ix (.v 0) (.k (.int 1))) (.cons (.v 3) .nil))))
  .nil))
  .nil))
  (.cons (.ret (.call 24 (.cons (.k (.int 0)) (.cons (.v 2) (.cons (.v 3) .nil)))))
  .nil))))), true⟩
def d_price : Def := ⟨2, 5, (.cons (.ifs (.cmp .eq (.v 0) (.k (.int 1))) (.cons (.ret (.k (.int 0)))
  .nil) .nil)
  (.cons (.set 2 (.k (.int 1)))
  (.cons (.ifs (.not (.isi (.v 1) .tuple)) (.cons (.set 2 (.bin .add (.k (.int 1)) (.k (.int 1000))))
  .nil) .nil)
  (.cons (.unp [3, 4] (.call 32 (.cons (.v 1) .nil)))
  (.cons (.ifs (.cmp .eq (.ix (.v 0) (.k (.int 0))) (.k (.int 0))) (.cons (.ret (.bin .add (.v 2) (.call 37 (.cons (.ix (.v 0) (.k (.int 1))) (.cons (.v 4) .nil)))))
  .nil) .nil)
  (.cons (.ifs (.cmp .eq (.ix (.v 0) (.k (.int 1))) (.k (.int 0))) (.cons (.ret (.bin .add (.v 2) (.call 37 (.cons (.ix (.v 0) (.k (.int 0))) (.cons (.v 3) .nil)))))
  .nil) .nil)
  (.cons (.ret (.bin .add (.v 2) (.blt .min (.cons (.call 37 (.cons (.ix (.v 0) (.k (.int 0))) (.cons (.v 3) .nil))) (.cons (.call 37 (.cons (.ix (.v 0) (.k (.int 1))) (.cons (.v 4) .nil))) .nil)))))
  .nil))))))), true⟩
def d_goes_left : Def := ⟨3, 3, (.cons (.ifs (.cmp .eq (.ix (.v 0) (.k (.int 0))) (.k (.int 0))) (.cons (.ret (.k (.bl false)))
  .nil) .nil)
  (.cons (.ifs (.cmp .eq (.ix (.v 0) (.k (.int 1))) (.k (.int 0))) (.cons (.ret (.k (.bl true)))
  .nil) .nil)
  (.cons (.ret (.cmp .lt (.call 37 (.cons (.ix (.v 0) (.k (.int 0))) (.cons (.v 1) .nil))) (.call 37 (.cons (.ix (.v 0) (.k (.int 1))) (.cons (.v 2) .nil)))))
  .nil))), true⟩
def d_grown : Def := ⟨2, 4, (.cons (.ifs (.cmp .eq (.v 0) (.k (.int 1))) (.cons (.ret (.bin .add (.v 1) (.k (.int 1))))
  .nil) .nil)
  (.cons (.unp [2, 3] (.call 32 (.cons (.v 1) .nil)))
  (.cons (.ifs (.call 38 (.cons (.v 0) (.cons (.v 2) (.cons (.v 3) .nil)))) (.cons (.ret (.call 24 (.cons (.k (.int 0)) (.cons (.call 39 (.cons (.ix (.v 0) (.k (.int 0))) (.cons (.v 2) .nil))) (.cons (.v 3) .nil)))))
  .nil) .nil)
  (.cons (.ret (.call 24 (.cons (.k (.int 0)) (.cons (.v 2) (.cons (.call 39 (.cons (.ix (.v 0) (.k (.int 1))) (.cons (.v 3) .nil))) .nil)))))
  .nil)))), true⟩
def d_raised : Def := ⟨2, 3, (.cons (.ifs (.cmp .eq (.v 0) (.k (.int 0))) (.cons (.raise 14)
  .nil) .nil)
  (.cons (.set 2 (.call 36 (.cons (.v 0) (.cons (.v 1) .nil))))
  (.cons (.ifs (.cmp .ne (.v 2) (.v 1)) (.cons (.ret (.v 2))
  .nil) .nil)
  (.cons (.ret (.call 39 (.cons (.v 0) (.cons (.v 1) .nil))))
  .nil)))), true⟩
def d_is_own : Def := ⟨1, 1, (.cons (.ifs (.isi (.v 0) .tuple) (.cons (.ret (.and (.cmp .eq (.blt .len (.cons (.v 0) .nil)) (.k (.int 2))) (.and (.call 2 (.cons (.ix (.v 0) (.k (.int 0))) .nil)) (.call 2 (.cons (.ix (.v 0) (.k (.int 1))) .nil)))))
  .nil) .nil)
  (.cons (.ret (.and (.call 1 (.cons (.v 0) .nil)) (.chain .le .le (.k (.int 0)) (.v 0) (.k (.int 1)))))
  .nil)), true⟩
def d_least_own : Def := ⟨1, 1, (.cons (.ifs (.not (.isi (.v 0) .tuple)) (.cons (.ret (.v 0))
  .nil) .nil)
  (.cons (.ret (.call 4 (.cons (.call 5 (.cons (.ix (.v 0) (.k (.int 0))) .nil)) (.cons (.call 5 (.cons (.ix (.v 0) (.k (.int 1))) .nil)) .nil))))
  .nil)), true⟩
def d_is_least_own : Def := ⟨1, 1, (.cons (.ret (.and (.call 2 (.cons (.v 0) .nil)) (.cmp .eq (.call 5 (.cons (.v 0) .nil)) (.v 0))))
  .nil), true⟩
end MP

namespace MP
open Classical
/-! the machine's equations, each continuation by name -/
variable {sub : Nat → Nat → Option Bool} {Γ : Call} {W : Nat}

theorem bind_ok {α β : Type} (v : α) (st : Store) (k : α → Store → R β) : (R.ok v st).bind k = k v st := Eq.trans rfl rfl
theorem bind_exc {α β : Type} (c : Nat) (st : Store) (k : α → Store → R β) : (R.exc c st).bind k = .exc c st := Eq.trans rfl rfl
theorem fr_ok (v : FV) (st : Store) (k : FV → Store → R PV) : (R.ok (.f v) st).fr k = k v st := Eq.trans rfl rfl
theorem fr_exc (c : Nat) (st : Store) (k : FV → Store → R PV) : (R.exc c st).fr k = .exc c st := Eq.trans rfl rfl
theorem frI_ok (v : FV) (st : Store) (k : FV → Store → R (List FV)) : (R.ok (.f v) st).frI k = k v st := Eq.trans rfl rfl
theorem frI_exc (c : Nat) (st : Store) (k : FV → Store → R (List FV)) : (R.exc c st).frI k = .exc c st := Eq.trans rfl rfl
theorem tst_ok {α : Type} (b : Bool) (st : Store) (k : Bool → Store → R α) : (R.ok (.f (.bl b)) st).tst k = k b st := Eq.trans rfl rfl
theorem tst_exc {α : Type} (c : Nat) (st : Store) (k : Bool → Store → R α) : (R.exc c st).tst k = .exc c st := Eq.trans rfl rfl
theorem of_some {α : Type} (v : α) (st : Store) : R.of (some v) st = .ok v st := Eq.trans rfl rfl
theorem s_ok {α : Type} (v : α) (st : Store) (env : Env) (k : α → Store → SR) : (R.ok v st).s env k = k v st := Eq.trans rfl rfl
theorem s_exc {α : Type} (c : Nat) (st : Store) (env : Env) (k : α → Store → SR) : (R.exc c st).s env k = .exc c env st := Eq.trans rfl rfl
theorem sb_nx (env : Env) (st : Store) (k : Env → Store → SR) : (SR.nx env st).bind k = k env st := Eq.trans rfl rfl
theorem sb_rt (v : PV) (st : Store) (k : Env → Store → SR) : (SR.rt v st).bind k = .rt v st := Eq.trans rfl rfl
theorem sb_exc (c : Nat) (env : Env) (st : Store) (k : Env → Store → SR) : (SR.exc c env st).bind k = .exc c env st := Eq.trans rfl rfl
theorem so_some {α : Type} (v : α) (k : α → SR) : SR.of (some v) k = k v := Eq.trans rfl rfl
theorem g_true {α : Type} (v : α) : g true v = some v := Eq.trans rfl rfl
def kGet : Option (Option PV) → Store → R PV
  | some (some pv), st => .ok pv st
  | _, _ => .bad
theorem kGet_some (pv : PV) (st : Store) : kGet (some (some pv)) st = .ok pv st := Eq.trans rfl rfl
theorem ev_v (i : Nat) (env : Env) (st : Store) : evE sub Γ (.v i) env st = kGet env[i]? st := by
  show (match env[i]? with | some (some pv) => R.ok pv st | _ => .bad) = _
  rcases env[i]? with _ | _ | _ <;> rfl
theorem ev_k (c : FV) (env : Env) (st : Store) : evE sub Γ (.k c) env st = .ok (.f c) st := Eq.trans rfl rfl
noncomputable def k2bin (sub : Nat → Nat → Option Bool) (Γ : Call) (o : BO) (x : FV) (y : FV) (st : Store) : R PV := R.of ((binop o x y).map .f) st
theorem k2bin_eq (o : BO) (x : FV) (y : FV) (st : Store) : k2bin sub Γ o x y st = R.of ((binop o x y).map .f) st := Eq.trans rfl rfl
noncomputable def k1bin (sub : Nat → Nat → Option Bool) (Γ : Call) (o : BO) (b : E) (env : Env) (x : FV) (st : Store) : R PV := (evE sub Γ b env st).fr (k2bin sub Γ o x)
theorem k1bin_eq (o : BO) (b : E) (env : Env) (x : FV) (st : Store) : k1bin sub Γ o b env x st = (evE sub Γ b env st).fr (k2bin sub Γ o x) := Eq.trans rfl rfl
theorem ev_bin (o : BO) (a b : E) (env : Env) (st : Store) : evE sub Γ (.bin o a b) env st = (evE sub Γ a env st).fr (k1bin sub Γ o b env) := Eq.trans rfl rfl
noncomputable def k2cmp (sub : Nat → Nat → Option Bool) (Γ : Call) (o : CO) (x : PV) (y : PV) (st : Store) : R PV := R.of ((cmpS st o x y).map fun b => .f (.bl b)) st
theorem k2cmp_eq (o : CO) (x : PV) (y : PV) (st : Store) : k2cmp sub Γ o x y st = R.of ((cmpS st o x y).map fun b => .f (.bl b)) st := Eq.trans rfl rfl
noncomputable def k1cmp (sub : Nat → Nat → Option Bool) (Γ : Call) (o : CO) (b : E) (env : Env) (x : PV) (st : Store) : R PV := (evE sub Γ b env st).bind (k2cmp sub Γ o x)
theorem k1cmp_eq (o : CO) (b : E) (env : Env) (x : PV) (st : Store) : k1cmp sub Γ o b env x st = (evE sub Γ b env st).bind (k2cmp sub Γ o x) := Eq.trans rfl rfl
theorem ev_cmp (o : CO) (a b : E) (env : Env) (st : Store) : evE sub Γ (.cmp o a b) env st = (evE sub Γ a env st).bind (k1cmp sub Γ o b env) := Eq.trans rfl rfl
noncomputable def k2ix (sub : Nat → Nat → Option Bool) (Γ : Call)  (x : PV) (y : FV) (st : Store) : R PV := R.of (ixS st x y) st
theorem k2ix_eq  (x : PV) (y : FV) (st : Store) : k2ix sub Γ x y st = R.of (ixS st x y) st := Eq.trans rfl rfl
noncomputable def k1ix (sub : Nat → Nat → Option Bool) (Γ : Call)  (b : E) (env : Env) (x : PV) (st : Store) : R PV := (evE sub Γ b env st).fr (k2ix sub Γ  x)
theorem k1ix_eq  (b : E) (env : Env) (x : PV) (st : Store) : k1ix sub Γ b env x st = (evE sub Γ b env st).fr (k2ix sub Γ  x) := Eq.trans rfl rfl
theorem ev_ix  (a b : E) (env : Env) (st : Store) : evE sub Γ (.ix a b) env st = (evE sub Γ a env st).bind (k1ix sub Γ  b env) := Eq.trans rfl rfl
noncomputable def k2dget (sub : Nat → Nat → Option Bool) (Γ : Call)  (x : PV) (y : FV) (st : Store) : R PV := R.of (dgetS st x y) st
theorem k2dget_eq  (x : PV) (y : FV) (st : Store) : k2dget sub Γ x y st = R.of (dgetS st x y) st := Eq.trans rfl rfl
noncomputable def k1dget (sub : Nat → Nat → Option Bool) (Γ : Call)  (b : E) (env : Env) (x : PV) (st : Store) : R PV := (evE sub Γ b env st).fr (k2dget sub Γ  x)
theorem k1dget_eq  (b : E) (env : Env) (x : PV) (st : Store) : k1dget sub Γ b env x st = (evE sub Γ b env st).fr (k2dget sub Γ  x) := Eq.trans rfl rfl
theorem ev_dget  (a b : E) (env : Env) (st : Store) : evE sub Γ (.dget a b) env st = (evE sub Γ a env st).bind (k1dget sub Γ  b env) := Eq.trans rfl rfl
noncomputable def k2din (sub : Nat → Nat → Option Bool) (Γ : Call)  (x : FV) (y : PV) (st : Store) : R PV := R.of ((dinS st x y).map fun b => .f (.bl b)) st
theorem k2din_eq  (x : FV) (y : PV) (st : Store) : k2din sub Γ x y st = R.of ((dinS st x y).map fun b => .f (.bl b)) st := Eq.trans rfl rfl
noncomputable def k1din (sub : Nat → Nat → Option Bool) (Γ : Call)  (b : E) (env : Env) (x : FV) (st : Store) : R PV := (evE sub Γ b env st).bind (k2din sub Γ  x)
theorem k1din_eq  (b : E) (env : Env) (x : FV) (st : Store) : k1din sub Γ b env x st = (evE sub Γ b env st).bind (k2din sub Γ  x) := Eq.trans rfl rfl
theorem ev_din  (a b : E) (env : Env) (st : Store) : evE sub Γ (.din a b) env st = (evE sub Γ a env st).fr (k1din sub Γ  b env) := Eq.trans rfl rfl
noncomputable def k2dnot (sub : Nat → Nat → Option Bool) (Γ : Call)  (x : FV) (y : PV) (st : Store) : R PV := R.of ((dinS st x y).map fun b => .f (.bl (!b))) st
theorem k2dnot_eq  (x : FV) (y : PV) (st : Store) : k2dnot sub Γ x y st = R.of ((dinS st x y).map fun b => .f (.bl (!b))) st := Eq.trans rfl rfl
noncomputable def k1dnot (sub : Nat → Nat → Option Bool) (Γ : Call)  (b : E) (env : Env) (x : FV) (st : Store) : R PV := (evE sub Γ b env st).bind (k2dnot sub Γ  x)
theorem k1dnot_eq  (b : E) (env : Env) (x : FV) (st : Store) : k1dnot sub Γ b env x st = (evE sub Γ b env st).bind (k2dnot sub Γ  x) := Eq.trans rfl rfl
theorem ev_dnot  (a b : E) (env : Env) (st : Store) : evE sub Γ (.dnot a b) env st = (evE sub Γ a env st).fr (k1dnot sub Γ  b env) := Eq.trans rfl rfl
noncomputable def k2cutTo (sub : Nat → Nat → Option Bool) (Γ : Call)  (x : FV) (y : FV) (st : Store) : R PV := R.of (y.toInt?.bind fun i => (cutF x none (some i)).map .f) st
theorem k2cutTo_eq  (x : FV) (y : FV) (st : Store) : k2cutTo sub Γ x y st = R.of (y.toInt?.bind fun i => (cutF x none (some i)).map .f) st := Eq.trans rfl rfl
noncomputable def k1cutTo (sub : Nat → Nat → Option Bool) (Γ : Call)  (b : E) (env : Env) (x : FV) (st : Store) : R PV := (evE sub Γ b env st).fr (k2cutTo sub Γ  x)
theorem k1cutTo_eq  (b : E) (env : Env) (x : FV) (st : Store) : k1cutTo sub Γ b env x st = (evE sub Γ b env st).fr (k2cutTo sub Γ  x) := Eq.trans rfl rfl
theorem ev_cutTo  (a b : E) (env : Env) (st : Store) : evE sub Γ (.cutTo a b) env st = (evE sub Γ a env st).fr (k1cutTo sub Γ  b env) := Eq.trans rfl rfl
noncomputable def k2cutFrom (sub : Nat → Nat → Option Bool) (Γ : Call)  (x : FV) (y : FV) (st : Store) : R PV := R.of (y.toInt?.bind fun i => (cutF x (some i) none).map .f) st
theorem k2cutFrom_eq  (x : FV) (y : FV) (st : Store) : k2cutFrom sub Γ x y st = R.of (y.toInt?.bind fun i => (cutF x (some i) none).map .f) st := Eq.trans rfl rfl
noncomputable def k1cutFrom (sub : Nat → Nat → Option Bool) (Γ : Call)  (b : E) (env : Env) (x : FV) (st : Store) : R PV := (evE sub Γ b env st).fr (k2cutFrom sub Γ  x)
theorem k1cutFrom_eq  (b : E) (env : Env) (x : FV) (st : Store) : k1cutFrom sub Γ b env x st = (evE sub Γ b env st).fr (k2cutFrom sub Γ  x) := Eq.trans rfl rfl
theorem ev_cutFrom  (a b : E) (env : Env) (st : Store) : evE sub Γ (.cutFrom a b) env st = (evE sub Γ a env st).fr (k1cutFrom sub Γ  b env) := Eq.trans rfl rfl
noncomputable def k1and (sub : Nat → Nat → Option Bool) (Γ : Call) (b : E) (env : Env) (k : Bool) (st : Store) : R PV := if k = true then evE sub Γ b env st else .ok (.f (.bl false)) st
theorem k1and_eq (b : E) (env : Env) (k : Bool) (st : Store) : k1and sub Γ b env k st = if k = true then evE sub Γ b env st else .ok (.f (.bl false)) st := Eq.trans rfl rfl
theorem ev_and (a b : E) (env : Env) (st : Store) : evE sub Γ (.and a b) env st = (evE sub Γ a env st).tst (k1and sub Γ b env) := Eq.trans rfl rfl
noncomputable def k1or (sub : Nat → Nat → Option Bool) (Γ : Call) (b : E) (env : Env) (k : Bool) (st : Store) : R PV := if k = true then .ok (.f (.bl true)) st else evE sub Γ b env st
theorem k1or_eq (b : E) (env : Env) (k : Bool) (st : Store) : k1or sub Γ b env k st = if k = true then .ok (.f (.bl true)) st else evE sub Γ b env st := Eq.trans rfl rfl
theorem ev_or (a b : E) (env : Env) (st : Store) : evE sub Γ (.or a b) env st = (evE sub Γ a env st).tst (k1or sub Γ b env) := Eq.trans rfl rfl
noncomputable def k1not (sub : Nat → Nat → Option Bool) (Γ : Call)  (k : Bool) (st : Store) : R PV := .ok (.f (.bl (!k))) st
theorem k1not_eq  (k : Bool) (st : Store) : k1not sub Γ k st = .ok (.f (.bl (!k))) st := Eq.trans rfl rfl
theorem ev_not (a : E) (env : Env) (st : Store) : evE sub Γ (.not a) env st = (evE sub Γ a env st).tst (k1not sub Γ) := Eq.trans rfl rfl
noncomputable def k1neg (sub : Nat → Nat → Option Bool) (Γ : Call)  (x : FV) (st : Store) : R PV := R.of (x.toInt?.map fun i => .f (.int (-i))) st
theorem k1neg_eq  (x : FV) (st : Store) : k1neg sub Γ x st = R.of (x.toInt?.map fun i => .f (.int (-i))) st := Eq.trans rfl rfl
theorem ev_neg (a : E) (env : Env) (st : Store) : evE sub Γ (.neg a) env st = (evE sub Γ a env st).fr (k1neg sub Γ) := Eq.trans rfl rfl
noncomputable def k1ite (sub : Nat → Nat → Option Bool) (Γ : Call) (a b : E) (env : Env) (k : Bool) (st : Store) : R PV := if k = true then evE sub Γ a env st else evE sub Γ b env st
theorem k1ite_eq (a b : E) (env : Env) (k : Bool) (st : Store) : k1ite sub Γ a b env k st = if k = true then evE sub Γ a env st else evE sub Γ b env st := Eq.trans rfl rfl
theorem ev_ite (c a b : E) (env : Env) (st : Store) : evE sub Γ (.ite c a b) env st = (evE sub Γ c env st).tst (k1ite sub Γ a b env) := Eq.trans rfl rfl
noncomputable def k4chain (sub : Nat → Nat → Option Bool) (Γ : Call) (p : CO) (y : PV) (z : PV) (st : Store) : R PV := R.of ((cmpS st p y z).map fun b => .f (.bl b)) st
theorem k4chain_eq (p : CO) (y : PV) (z : PV) (st : Store) : k4chain sub Γ p y z st = R.of ((cmpS st p y z).map fun b => .f (.bl b)) st := Eq.trans rfl rfl
noncomputable def k3chain (sub : Nat → Nat → Option Bool) (Γ : Call) (p : CO) (c : E) (env : Env) (y : PV) (k : Bool) (st : Store) : R PV := if k = true then (evE sub Γ c env st).bind (k4chain sub Γ p y) else .ok (.f (.bl false)) st
theorem k3chain_eq (p : CO) (c : E) (env : Env) (y : PV) (k : Bool) (st : Store) : k3chain sub Γ p c env y k st = if k = true then (evE sub Γ c env st).bind (k4chain sub Γ p y) else .ok (.f (.bl false)) st := Eq.trans rfl rfl
noncomputable def k2chain (sub : Nat → Nat → Option Bool) (Γ : Call) (o p : CO) (c : E) (env : Env) (x : PV) (y : PV) (st : Store) : R PV := (R.of (cmpS st o x y) st).bind (k3chain sub Γ p c env y)
theorem k2chain_eq (o p : CO) (c : E) (env : Env) (x : PV) (y : PV) (st : Store) : k2chain sub Γ o p c env x y st = (R.of (cmpS st o x y) st).bind (k3chain sub Γ p c env y) := Eq.trans rfl rfl
noncomputable def k1chain (sub : Nat → Nat → Option Bool) (Γ : Call) (o p : CO) (b c : E) (env : Env) (x : PV) (st : Store) : R PV := (evE sub Γ b env st).bind (k2chain sub Γ o p c env x)
theorem k1chain_eq (o p : CO) (b c : E) (env : Env) (x : PV) (st : Store) : k1chain sub Γ o p b c env x st = (evE sub Γ b env st).bind (k2chain sub Γ o p c env x) := Eq.trans rfl rfl
theorem ev_chain (o p : CO) (a b c : E) (env : Env) (st : Store) : evE sub Γ (.chain o p a b c) env st = (evE sub Γ a env st).bind (k1chain sub Γ o p b c env) := Eq.trans rfl rfl
noncomputable def k1tup (sub : Nat → Nat → Option Bool) (Γ : Call)  (vs : List PV) (st : Store) : R PV := R.of ((allF vs).map fun fs => .f (.tup fs)) st
theorem k1tup_eq  (vs : List PV) (st : Store) : k1tup sub Γ vs st = R.of ((allF vs).map fun fs => .f (.tup fs)) st := Eq.trans rfl rfl
theorem ev_tup  (es : Es) (env : Env) (st : Store) : evE sub Γ (.tup es) env st = (evEs sub Γ es env st).bind (k1tup sub Γ ) := Eq.trans rfl rfl
noncomputable def k1lst (sub : Nat → Nat → Option Bool) (Γ : Call)  (vs : List PV) (st : Store) : R PV := R.of ((allF vs).map fun fs => .f (.lst fs)) st
theorem k1lst_eq  (vs : List PV) (st : Store) : k1lst sub Γ vs st = R.of ((allF vs).map fun fs => .f (.lst fs)) st := Eq.trans rfl rfl
theorem ev_lst  (es : Es) (env : Env) (st : Store) : evE sub Γ (.lst es) env st = (evEs sub Γ es env st).bind (k1lst sub Γ ) := Eq.trans rfl rfl
noncomputable def k1mlst (sub : Nat → Nat → Option Bool) (Γ : Call)  (vs : List PV) (st : Store) : R PV := .ok (.r st.length) (st ++ [.lst vs])
theorem k1mlst_eq  (vs : List PV) (st : Store) : k1mlst sub Γ vs st = .ok (.r st.length) (st ++ [.lst vs]) := Eq.trans rfl rfl
theorem ev_mlst  (es : Es) (env : Env) (st : Store) : evE sub Γ (.mlst es) env st = (evEs sub Γ es env st).bind (k1mlst sub Γ ) := Eq.trans rfl rfl
noncomputable def k1mdic (sub : Nat → Nat → Option Bool) (Γ : Call) (ks : List KY) (vs : List PV) (st : Store) : R PV := .ok (.r st.length) (st ++ [.dic (ks.zip vs)])
theorem k1mdic_eq (ks : List KY) (vs : List PV) (st : Store) : k1mdic sub Γ ks vs st = .ok (.r st.length) (st ++ [.dic (ks.zip vs)]) := Eq.trans rfl rfl
theorem ev_mdic (ks : List KY) (es : Es) (env : Env) (st : Store) : evE sub Γ (.mdic ks es) env st = (evEs sub Γ es env st).bind (k1mdic sub Γ ks) := Eq.trans rfl rfl
theorem ev_call (f : Nat) (es : Es) (env : Env) (st : Store) : evE sub Γ (.call f es) env st = (evEs sub Γ es env st).bind (Γ f) := Eq.trans rfl rfl
noncomputable def k1blt (sub : Nat → Nat → Option Bool) (Γ : Call) (b : BI) (vs : List PV) (st : Store) : R PV := R.of ((bltS st b vs).map .f) st
theorem k1blt_eq (b : BI) (vs : List PV) (st : Store) : k1blt sub Γ b vs st = R.of ((bltS st b vs).map .f) st := Eq.trans rfl rfl
theorem ev_blt (b : BI) (es : Es) (env : Env) (st : Store) : evE sub Γ (.blt b es) env st = (evEs sub Γ es env st).bind (k1blt sub Γ b) := Eq.trans rfl rfl
noncomputable def k2meth (sub : Nat → Nat → Option Bool) (Γ : Call) (f : Nat) (x : PV) (vs : List PV) (st : Store) : R PV := Γ f (x :: vs) st
theorem k2meth_eq (f : Nat) (x : PV) (vs : List PV) (st : Store) : k2meth sub Γ f x vs st = Γ f (x :: vs) st := Eq.trans rfl rfl
noncomputable def k1meth (sub : Nat → Nat → Option Bool) (Γ : Call) (c f : Nat) (es : Es) (env : Env) (x : PV) (st : Store) : R PV := if clsOf st x = some c then (evEs sub Γ es env st).bind (k2meth sub Γ f x) else .bad
theorem k1meth_eq (c f : Nat) (es : Es) (env : Env) (x : PV) (st : Store) : k1meth sub Γ c f es env x st = if clsOf st x = some c then (evEs sub Γ es env st).bind (k2meth sub Γ f x) else .bad := Eq.trans rfl rfl
theorem ev_meth (c f : Nat) (o : E) (es : Es) (env : Env) (st : Store) : evE sub Γ (.meth c f o es) env st = (evE sub Γ o env st).bind (k1meth sub Γ c f es env) := Eq.trans rfl rfl
noncomputable def k2make (sub : Nat → Nat → Option Bool) (Γ : Call) (z : Bool) (c : Nat) (st : Store) (r : R PV) : R PV := match r with
    | .ok (.f .non) st2 => made z c st st2
    | .exc e st2 => if z = true then (if st2.take st.length = st then .exc e st else .bad) else .exc e st2
    | _ => .bad
theorem k2make_eq (z : Bool) (c : Nat) (st : Store) (r : R PV) : k2make sub Γ z c st r = match r with
    | .ok (.f .non) st2 => made z c st st2
    | .exc e st2 => if z = true then (if st2.take st.length = st then .exc e st else .bad) else .exc e st2
    | _ => .bad := Eq.trans rfl rfl
noncomputable def k1make (sub : Nat → Nat → Option Bool) (Γ : Call) (z : Bool) (c f : Nat) (ds : List FV) (vs : List PV) (st : Store) : R PV := k2make sub Γ z c st (Γ f (.r st.length :: (vs ++ ds.map .f)) (st ++ [.ins c []]))
theorem k1make_eq (z : Bool) (c f : Nat) (ds : List FV) (vs : List PV) (st : Store) : k1make sub Γ z c f ds vs st = k2make sub Γ z c st (Γ f (.r st.length :: (vs ++ ds.map .f)) (st ++ [.ins c []])) := Eq.trans rfl rfl
theorem ev_make (z : Bool) (c f : Nat) (es : Es) (ds : List FV) (env : Env) (st : Store) : evE sub Γ (.make z c f es ds) env st = (evEs sub Γ es env st).bind (k1make sub Γ z c f ds) := Eq.trans rfl rfl
theorem k2make_ok (z : Bool) (c : Nat) (st st2 : Store) : k2make sub Γ z c st (.ok (.f .non) st2) = made z c st st2 := Eq.trans rfl rfl
theorem k2make_exc (z : Bool) (c e : Nat) (st st2 : Store) : k2make sub Γ z c st (.exc e st2) = if z = true then (if st2.take st.length = st then .exc e st else .bad) else .exc e st2 := Eq.trans rfl rfl
noncomputable def k1fld (sub : Nat → Nat → Option Bool) (Γ : Call) (c k : Nat) (x : PV) (st : Store) : R PV := R.of (fldOf st c k x) st
theorem k1fld_eq (c k : Nat) (x : PV) (st : Store) : k1fld sub Γ c k x st = R.of (fldOf st c k x) st := Eq.trans rfl rfl
theorem ev_fld (c k : Nat) (a : E) (env : Env) (st : Store) : evE sub Γ (.fld c k a) env st = (evE sub Γ a env st).bind (k1fld sub Γ c k) := Eq.trans rfl rfl
noncomputable def k1isi (sub : Nat → Nat → Option Bool) (Γ : Call) (t : TY) (x : PV) (st : Store) : R PV := R.of ((isiS sub st x t).map fun b => .f (.bl b)) st
theorem k1isi_eq (t : TY) (x : PV) (st : Store) : k1isi sub Γ t x st = R.of ((isiS sub st x t).map fun b => .f (.bl b)) st := Eq.trans rfl rfl
theorem ev_isi (a : E) (t : TY) (env : Env) (st : Store) : evE sub Γ (.isi a t) env st = (evE sub Γ a env st).bind (k1isi sub Γ t) := Eq.trans rfl rfl
noncomputable def k2bm (sub : Nat → Nat → Option Bool) (Γ : Call) (m : BM) (x : FV) (vs : List PV) (st : Store) : R PV := R.of ((allF vs).bind fun fs => (bmF m x fs).map .f) st
theorem k2bm_eq (m : BM) (x : FV) (vs : List PV) (st : Store) : k2bm sub Γ m x vs st = R.of ((allF vs).bind fun fs => (bmF m x fs).map .f) st := Eq.trans rfl rfl
noncomputable def k1bm (sub : Nat → Nat → Option Bool) (Γ : Call) (m : BM) (es : Es) (env : Env) (x : FV) (st : Store) : R PV := if bmT m x = true then (evEs sub Γ es env st).bind (k2bm sub Γ m x) else .bad
theorem k1bm_eq (m : BM) (es : Es) (env : Env) (x : FV) (st : Store) : k1bm sub Γ m es env x st = if bmT m x = true then (evEs sub Γ es env st).bind (k2bm sub Γ m x) else .bad := Eq.trans rfl rfl
theorem ev_bm (m : BM) (o : E) (es : Es) (env : Env) (st : Store) : evE sub Γ (.bm m o es) env st = (evE sub Γ o env st).fr (k1bm sub Γ m es env) := Eq.trans rfl rfl
noncomputable def k3cut (sub : Nat → Nat → Option Bool) (Γ : Call) (x : FV) (i : Int) (z : FV) (st : Store) : R PV := R.of (z.toInt?.bind fun j => (cutF x (some i) (some j)).map .f) st
theorem k3cut_eq (x : FV) (i : Int) (z : FV) (st : Store) : k3cut sub Γ x i z st = R.of (z.toInt?.bind fun j => (cutF x (some i) (some j)).map .f) st := Eq.trans rfl rfl
noncomputable def k2cuti (sub : Nat → Nat → Option Bool) (Γ : Call) (hi : E) (env : Env) (x : FV) (i : Int) (st : Store) : R PV := (evE sub Γ hi env st).fr (k3cut sub Γ x i)
theorem k2cuti_eq (hi : E) (env : Env) (x : FV) (i : Int) (st : Store) : k2cuti sub Γ hi env x i st = (evE sub Γ hi env st).fr (k3cut sub Γ x i) := Eq.trans rfl rfl
noncomputable def k2cut (sub : Nat → Nat → Option Bool) (Γ : Call) (hi : E) (env : Env) (x : FV) (y : FV) (st : Store) : R PV := (R.of y.toInt? st).bind (k2cuti sub Γ hi env x)
theorem k2cut_eq (hi : E) (env : Env) (x : FV) (y : FV) (st : Store) : k2cut sub Γ hi env x y st = (R.of y.toInt? st).bind (k2cuti sub Γ hi env x) := Eq.trans rfl rfl
noncomputable def k1cut (sub : Nat → Nat → Option Bool) (Γ : Call) (lo hi : E) (env : Env) (x : FV) (st : Store) : R PV := (evE sub Γ lo env st).fr (k2cut sub Γ hi env x)
theorem k1cut_eq (lo hi : E) (env : Env) (x : FV) (st : Store) : k1cut sub Γ lo hi env x st = (evE sub Γ lo env st).fr (k2cut sub Γ hi env x) := Eq.trans rfl rfl
theorem ev_cut (a lo hi : E) (env : Env) (st : Store) : evE sub Γ (.cut a lo hi) env st = (evE sub Γ a env st).fr (k1cut sub Γ lo hi env) := Eq.trans rfl rfl
def kElt : PV → Store → R (Option FV)
  | .f v, st => .ok (some v) st
  | .r _, _ => .bad
theorem kElt_f (v : FV) (st : Store) : kElt (.f v) st = .ok (some v) st := Eq.trans rfl rfl
noncomputable def kLst (sub : Nat → Nat → Option Bool) (Γ : Call)  (vs : List FV) (st : Store) : R PV := .ok (.f (.lst vs)) st
theorem kLst_eq  (vs : List FV) (st : Store) : kLst sub Γ vs st = .ok (.f (.lst vs)) st := Eq.trans rfl rfl
noncomputable def kLcB (sub : Nat → Nat → Option Bool) (Γ : Call) (elt : E) (st : Store) (env : Option Env) : R (Option FV) := match env with
    | some env' => (evE sub Γ elt env' st).bind kElt
    | none => .bad
theorem kLcB_eq (elt : E) (st : Store) (env : Option Env) : kLcB sub Γ elt st env = match env with
    | some env' => (evE sub Γ elt env' st).bind kElt
    | none => .bad := Eq.trans rfl rfl
theorem kLcB_some (elt : E) (st : Store) (env : Env) : kLcB sub Γ elt st (some env) = (evE sub Γ elt env st).bind kElt := Eq.trans rfl rfl
noncomputable def kLcT (sub : Nat → Nat → Option Bool) (Γ : Call) (elt : E) (tg : List Nat) (env : Env) (x : FV) (st : Store) : R (Option FV) := kLcB sub Γ elt st (bindT (wipeE env tg) tg x)
theorem kLcT_eq (elt : E) (tg : List Nat) (env : Env) (x : FV) (st : Store) : kLcT sub Γ elt tg env x st = kLcB sub Γ elt st (bindT (wipeE env tg) tg x) := Eq.trans rfl rfl
noncomputable def kLc (sub : Nat → Nat → Option Bool) (Γ : Call) (elt : E) (tg : List Nat) (env : Env) (xs : List FV) (st : Store) : R PV := (lcL (kLcT sub Γ elt tg env) xs [] st).bind (kLst sub Γ)
theorem kLc_eq (elt : E) (tg : List Nat) (env : Env) (xs : List FV) (st : Store) : kLc sub Γ elt tg env xs st = (lcL (kLcT sub Γ elt tg env) xs [] st).bind (kLst sub Γ) := Eq.trans rfl rfl
theorem ev_lc (elt : E) (tg : List Nat) (it : IT) (env : Env) (st : Store) : evE sub Γ (.lc elt tg it) env st = (evIT sub Γ it env st).bind (kLc sub Γ elt tg env) := by
  show (evIT sub Γ it env st).bind _ = (evIT sub Γ it env st).bind _
  congr 1
  funext xs st
  show (lcL _ xs [] st).bind _ = (lcL _ xs [] st).bind _
  congr 2
  funext x st
  show _ = kLcB sub Γ elt st (bindT (wipeE env tg) tg x)
  unfold kLcB
  cases bindT (wipeE env tg) tg x with
  | none => rfl
  | some env' => 
    show (evE sub Γ elt env' st).bind _ = (evE sub Γ elt env' st).bind _
    congr 1
    funext pv st
    cases pv <;> rfl
noncomputable def kIfF (sub : Nat → Nat → Option Bool) (Γ : Call) (elt : E) (env : Env) (k : Bool) (st : Store) : R (Option FV) := if k = true then (evE sub Γ elt env st).bind kElt else .ok none st
theorem kIfF_eq (elt : E) (env : Env) (k : Bool) (st : Store) : kIfF sub Γ elt env k st = if k = true then (evE sub Γ elt env st).bind kElt else .ok none st := Eq.trans rfl rfl
noncomputable def kLcIfB (sub : Nat → Nat → Option Bool) (Γ : Call) (elt c : E) (st : Store) (env : Option Env) : R (Option FV) := match env with
    | some env' => (evE sub Γ c env' st).tst (kIfF sub Γ elt env')
    | none => .bad
theorem kLcIfB_eq (elt c : E) (st : Store) (env : Option Env) : kLcIfB sub Γ elt c st env = match env with
    | some env' => (evE sub Γ c env' st).tst (kIfF sub Γ elt env')
    | none => .bad := Eq.trans rfl rfl
theorem kLcIfB_some (elt c : E) (st : Store) (env : Env) : kLcIfB sub Γ elt c st (some env) = (evE sub Γ c env st).tst (kIfF sub Γ elt env) := Eq.trans rfl rfl
noncomputable def kLcIfT (sub : Nat → Nat → Option Bool) (Γ : Call) (elt c : E) (tg : List Nat) (env : Env) (x : FV) (st : Store) : R (Option FV) := kLcIfB sub Γ elt c st (bindT (wipeE env tg) tg x)
theorem kLcIfT_eq (elt c : E) (tg : List Nat) (env : Env) (x : FV) (st : Store) : kLcIfT sub Γ elt c tg env x st = kLcIfB sub Γ elt c st (bindT (wipeE env tg) tg x) := Eq.trans rfl rfl
noncomputable def kLcIf (sub : Nat → Nat → Option Bool) (Γ : Call) (elt c : E) (tg : List Nat) (env : Env) (xs : List FV) (st : Store) : R PV := (lcL (kLcIfT sub Γ elt c tg env) xs [] st).bind (kLst sub Γ)
theorem kLcIf_eq (elt c : E) (tg : List Nat) (env : Env) (xs : List FV) (st : Store) : kLcIf sub Γ elt c tg env xs st = (lcL (kLcIfT sub Γ elt c tg env) xs [] st).bind (kLst sub Γ) := Eq.trans rfl rfl
theorem ev_lcIf (elt c : E) (tg : List Nat) (it : IT) (env : Env) (st : Store) : evE sub Γ (.lcIf elt tg it c) env st = (evIT sub Γ it env st).bind (kLcIf sub Γ elt c tg env) := by
  show (evIT sub Γ it env st).bind _ = (evIT sub Γ it env st).bind _
  congr 1
  funext xs st
  show (lcL _ xs [] st).bind _ = (lcL _ xs [] st).bind _
  congr 2
  funext x st
  show _ = kLcIfB sub Γ elt c st (bindT (wipeE env tg) tg x)
  unfold kLcIfB
  cases bindT (wipeE env tg) tg x with
  | none => rfl
  | some env' => 
    show (evE sub Γ c env' st).tst _ = (evE sub Γ c env' st).tst _
    congr 1
    funext k st
    cases k
    · rfl
    · show (evE sub Γ elt env' st).bind _ = (evE sub Γ elt env' st).bind _
      congr 1
      funext pv st
      cases pv <;> rfl
noncomputable def k2es (sub : Nat → Nat → Option Bool) (Γ : Call) (v : PV) (vs : List PV) (st : Store) : R (List PV) := .ok (v :: vs) st
theorem k2es_eq (v : PV) (vs : List PV) (st : Store) : k2es sub Γ v vs st = .ok (v :: vs) st := Eq.trans rfl rfl
noncomputable def k1es (sub : Nat → Nat → Option Bool) (Γ : Call) (es : Es) (env : Env) (v : PV) (st : Store) : R (List PV) := (evEs sub Γ es env st).bind (k2es sub Γ v)
theorem k1es_eq (es : Es) (env : Env) (v : PV) (st : Store) : k1es sub Γ es env v st = (evEs sub Γ es env st).bind (k2es sub Γ v) := Eq.trans rfl rfl
theorem es_nil (env : Env) (st : Store) : evEs sub Γ .nil env st = .ok [] st := Eq.trans rfl rfl
theorem es_cons (e : E) (es : Es) (env : Env) (st : Store) : evEs sub Γ (.cons e es) env st = (evE sub Γ e env st).bind (k1es sub Γ es env) := Eq.trans rfl rfl
noncomputable def kSeq (sub : Nat → Nat → Option Bool) (Γ : Call)  (x : FV) (st : Store) : R (List FV) := R.of (seqOf x) st
theorem kSeq_eq  (x : FV) (st : Store) : kSeq sub Γ x st = R.of (seqOf x) st := Eq.trans rfl rfl
theorem it_seq (e : E) (env : Env) (st : Store) : evIT sub Γ (.seq e) env st = (evE sub Γ e env st).frI (kSeq sub Γ) := Eq.trans rfl rfl
noncomputable def kRange (sub : Nat → Nat → Option Bool) (Γ : Call)  (x : FV) (st : Store) : R (List FV) := R.of (x.toInt?.bind fun n => g (decide (-(2 ^ 62) ≤ n ∧ n < 2 ^ 62)) (rangeL 0 1 n.toNat)) st
theorem kRange_eq  (x : FV) (st : Store) : kRange sub Γ x st = R.of (x.toInt?.bind fun n => g (decide (-(2 ^ 62) ≤ n ∧ n < 2 ^ 62)) (rangeL 0 1 n.toNat)) st := Eq.trans rfl rfl
theorem it_range (e : E) (env : Env) (st : Store) : evIT sub Γ (.range e) env st = (evE sub Γ e env st).frI (kRange sub Γ) := Eq.trans rfl rfl
noncomputable def k3rangeS (sub : Nat → Nat → Option Bool) (Γ : Call) (x y : FV) (z : FV) (st : Store) : R (List FV) := R.of (x.toInt?.bind fun i => y.toInt?.bind fun j => z.toInt?.bind fun k => g (decide (0 ≤ i ∧ i < 2 ^ 62 ∧ 0 ≤ j ∧ j < 2 ^ 62 ∧ 0 < k ∧ k < 1073741824)) (rangeL i k ((j - i + k - 1) / k).toNat)) st
theorem k3rangeS_eq (x y : FV) (z : FV) (st : Store) : k3rangeS sub Γ x y z st = R.of (x.toInt?.bind fun i => y.toInt?.bind fun j => z.toInt?.bind fun k => g (decide (0 ≤ i ∧ i < 2 ^ 62 ∧ 0 ≤ j ∧ j < 2 ^ 62 ∧ 0 < k ∧ k < 1073741824)) (rangeL i k ((j - i + k - 1) / k).toNat)) st := Eq.trans rfl rfl
noncomputable def k2rangeS (sub : Nat → Nat → Option Bool) (Γ : Call) (c : E) (env : Env) (x : FV) (y : FV) (st : Store) : R (List FV) := (evE sub Γ c env st).frI (k3rangeS sub Γ x y)
theorem k2rangeS_eq (c : E) (env : Env) (x : FV) (y : FV) (st : Store) : k2rangeS sub Γ c env x y st = (evE sub Γ c env st).frI (k3rangeS sub Γ x y) := Eq.trans rfl rfl
noncomputable def k1rangeS (sub : Nat → Nat → Option Bool) (Γ : Call) (b c : E) (env : Env) (x : FV) (st : Store) : R (List FV) := (evE sub Γ b env st).frI (k2rangeS sub Γ c env x)
theorem k1rangeS_eq (b c : E) (env : Env) (x : FV) (st : Store) : k1rangeS sub Γ b c env x st = (evE sub Γ b env st).frI (k2rangeS sub Γ c env x) := Eq.trans rfl rfl
theorem it_rangeS (a b c : E) (env : Env) (st : Store) : evIT sub Γ (.rangeS a b c) env st = (evE sub Γ a env st).frI (k1rangeS sub Γ b c env) := Eq.trans rfl rfl
def kEnum : FV → Store → R (List FV)
  | .lst xs, st => .ok (enumL 0 xs) st
  | .scr ns, st => .ok (enumL 0 (nums ns)) st
  | _, _ => .bad
theorem kEnum_lst (xs : List FV) (st : Store) : kEnum (.lst xs) st = .ok (enumL 0 xs) st := Eq.trans rfl rfl
theorem kEnum_scr (ns : List Int) (st : Store) : kEnum (.scr ns) st = .ok (enumL 0 (nums ns)) st := Eq.trans rfl rfl
theorem it_enum (e : E) (env : Env) (st : Store) : evIT sub Γ (.enum e) env st = (evE sub Γ e env st).frI kEnum := by
  show (evE sub Γ e env st).frI _ = (evE sub Γ e env st).frI _
  congr 1
  funext x st
  cases x <;> rfl
def kZip : FV → FV → Store → R (List FV)
  | .lst xs, .lst ys, st => .ok (zipL xs ys) st
  | _, _, _ => .bad
theorem kZip_lst (xs ys : List FV) (st : Store) : kZip (.lst xs) (.lst ys) st = .ok (zipL xs ys) st := Eq.trans rfl rfl
noncomputable def k1zip (sub : Nat → Nat → Option Bool) (Γ : Call) (b : E) (env : Env) (x : FV) (st : Store) : R (List FV) := (evE sub Γ b env st).frI (kZip x)
theorem k1zip_eq (b : E) (env : Env) (x : FV) (st : Store) : k1zip sub Γ b env x st = (evE sub Γ b env st).frI (kZip x) := Eq.trans rfl rfl
theorem it_zip (a b : E) (env : Env) (st : Store) : evIT sub Γ (.zip a b) env st = (evE sub Γ a env st).frI (k1zip sub Γ b env) := by
  show (evE sub Γ a env st).frI _ = (evE sub Γ a env st).frI _
  congr 1
  funext x st
  show (evE sub Γ b env st).frI _ = (evE sub Γ b env st).frI _
  congr 1
  funext y st
  cases x <;> first | rfl | (cases y <;> rfl)
noncomputable def kSet (sub : Nat → Nat → Option Bool) (Γ : Call) (i : Nat) (env : Env) (v : PV) (st : Store) : SR := .nx (env.set i (some v)) st
theorem kSet_eq (i : Nat) (env : Env) (v : PV) (st : Store) : kSet sub Γ i env v st = .nx (env.set i (some v)) st := Eq.trans rfl rfl
theorem ex_set (i : Nat) (e : E) (env : Env) (st : Store) : exS sub Γ W (.set i e) env st = (evE sub Γ e env st).s env (kSet sub Γ i env) := Eq.trans rfl rfl
noncomputable def kNx (sub : Nat → Nat → Option Bool) (Γ : Call) (st : Store) (env : Env) : SR := .nx env st
theorem kNx_eq (st : Store) (env : Env) : kNx sub Γ st env = .nx env st := Eq.trans rfl rfl
def kUnp (env : Env) (is : List Nat) : PV → Store → SR
  | .f x, st => SR.of (bindT env is x) fun env => .nx env st
  | .r _, _ => .bad
theorem kUnp_f (env : Env) (is : List Nat) (x : FV) (st : Store) : kUnp env is (.f x) st = SR.of (bindT env is x) fun env => .nx env st := Eq.trans rfl rfl
theorem ex_unp (is : List Nat) (e : E) (env : Env) (st : Store) : exS sub Γ W (.unp is e) env st = (evE sub Γ e env st).s env (kUnp env is) := by
  show (evE sub Γ e env st).s env _ = (evE sub Γ e env st).s env _
  congr 1
  funext x st
  cases x <;> rfl
noncomputable def k2par (sub : Nat → Nat → Option Bool) (Γ : Call) (i j : Nat) (env : Env) (v : PV) (w : PV) (st : Store) : SR := .nx ((env.set i (some v)).set j (some w)) st
theorem k2par_eq (i j : Nat) (env : Env) (v : PV) (w : PV) (st : Store) : k2par sub Γ i j env v w st = .nx ((env.set i (some v)).set j (some w)) st := Eq.trans rfl rfl
noncomputable def k1par (sub : Nat → Nat → Option Bool) (Γ : Call) (i j : Nat) (b : E) (env : Env) (v : PV) (st : Store) : SR := (evE sub Γ b env st).s env (k2par sub Γ i j env v)
theorem k1par_eq (i j : Nat) (b : E) (env : Env) (v : PV) (st : Store) : k1par sub Γ i j b env v st = (evE sub Γ b env st).s env (k2par sub Γ i j env v) := Eq.trans rfl rfl
theorem ex_par (i j : Nat) (a b : E) (env : Env) (st : Store) : exS sub Γ W (.par i j a b) env st = (evE sub Γ a env st).s env (k1par sub Γ i j b env) := Eq.trans rfl rfl
noncomputable def k2app (sub : Nat → Nat → Option Bool) (Γ : Call) (env : Env) (x : PV) (v : PV) (st : Store) : SR := SR.of (appS st x v) fun st => .nx env st
theorem k2app_eq (env : Env) (x : PV) (v : PV) (st : Store) : k2app sub Γ env x v st = SR.of (appS st x v) fun st => .nx env st := Eq.trans rfl rfl
noncomputable def k1app (sub : Nat → Nat → Option Bool) (Γ : Call) (e : E) (env : Env) (x : PV) (st : Store) : SR := if isLst st x = true then (evE sub Γ e env st).s env (k2app sub Γ env x) else .bad
theorem k1app_eq (e : E) (env : Env) (x : PV) (st : Store) : k1app sub Γ e env x st = if isLst st x = true then (evE sub Γ e env st).s env (k2app sub Γ env x) else .bad := Eq.trans rfl rfl
theorem ex_app (a e : E) (env : Env) (st : Store) : exS sub Γ W (.app a e) env st = (evE sub Γ a env st).s env (k1app sub Γ e env) := Eq.trans rfl rfl
noncomputable def kIf (sub : Nat → Nat → Option Bool) (Γ : Call) (W : Nat) (t f : Bk) (env : Env) : PV → Store → SR
  | .f (.bl true), st => exB sub Γ W t env st
  | .f (.bl false), st => exB sub Γ W f env st
  | _, _ => .bad
theorem kIf_b (t f : Bk) (env : Env) (b : Bool) (st : Store) : kIf sub Γ W t f env (.f (.bl b)) st = if b = true then exB sub Γ W t env st else exB sub Γ W f env st := by cases b <;> rfl
theorem ex_ifs (c : E) (t f : Bk) (env : Env) (st : Store) : exS sub Γ W (.ifs c t f) env st = (evE sub Γ c env st).s env (kIf sub Γ W t f env) := by
  show (evE sub Γ c env st).s env _ = (evE sub Γ c env st).s env _
  congr 1
  funext pv st
  rcases pv with v | n
  · cases v <;> first | rfl | (rename_i b; cases b <;> rfl)
  · rfl
noncomputable def kRt (sub : Nat → Nat → Option Bool) (Γ : Call)  (v : PV) (st : Store) : SR := .rt v st
theorem kRt_eq  (v : PV) (st : Store) : kRt sub Γ v st = .rt v st := Eq.trans rfl rfl
theorem ex_ret (e : E) (env : Env) (st : Store) : exS sub Γ W (.ret e) env st = (evE sub Γ e env st).s env (kRt sub Γ) := Eq.trans rfl rfl
noncomputable def kEx (sub : Nat → Nat → Option Bool) (Γ : Call) (env : Env) (v : PV) (st : Store) : SR := .nx env st
theorem kEx_eq (env : Env) (v : PV) (st : Store) : kEx sub Γ env v st = .nx env st := Eq.trans rfl rfl
theorem ex_ex (e : E) (env : Env) (st : Store) : exS sub Γ W (.ex e) env st = (evE sub Γ e env st).s env (kEx sub Γ env) := Eq.trans rfl rfl
theorem ex_raise (c : Nat) (env : Env) (st : Store) : exS sub Γ W (.raise c) env st = .exc c env st := Eq.trans rfl rfl
theorem ex_pass (env : Env) (st : Store) : exS sub Γ W .pass env st = .nx env st := Eq.trans rfl rfl
def kTry (sub : Nat → Nat → Option Bool) (c y i : Nat) : SR → SR
  | .exc c' env' st' => if sub c' c = some true then .nx ((env'.set y (some (.f (.exc c')))).set i none) st' else .bad
  | r => r
theorem kTry_exc (c y i c' : Nat) (env' : Env) (st' : Store) : kTry sub c y i (.exc c' env' st') = if sub c' c = some true then .nx ((env'.set y (some (.f (.exc c')))).set i none) st' else .bad := Eq.trans rfl rfl
theorem kTry_nx (c y i : Nat) (env : Env) (st : Store) : kTry sub c y i (.nx env st) = .nx env st := Eq.trans rfl rfl
theorem kTry_rt (c y i : Nat) (w : PV) (st : Store) : kTry sub c y i (.rt w st) = .rt w st := Eq.trans rfl rfl
theorem ex_try (b : Bk) (c y i : Nat) (env : Env) (st : Store) : exS sub Γ W (.tryKeep b c y i) env st = kTry sub c y i (exB sub Γ W b env st) := by
  show (match exB sub Γ W b env st with | .exc c' env' st' => if sub c' c = some true then SR.nx ((env'.set y (some (.f (.exc c')))).set i none) st' else .bad | r => r) = _
  unfold kTry
  rfl
noncomputable def kFor (sub : Nat → Nat → Option Bool) (Γ : Call) (W : Nat) (tg : List Nat) (b : Bk) (x : FV) (env : Env) (st : Store) : SR := SR.of (bindT env tg x) fun env => exB sub Γ W b env st
noncomputable def kFors (sub : Nat → Nat → Option Bool) (Γ : Call) (W : Nat) (tg : List Nat) (b : Bk) (env : Env) (xs : List FV) (st : Store) : SR := forL (kFor sub Γ W tg b) xs env st
theorem kFors_eq (tg : List Nat) (b : Bk) (env : Env) (xs : List FV) (st : Store) : kFors sub Γ W tg b env xs st = forL (kFor sub Γ W tg b) xs env st := Eq.trans rfl rfl
theorem kFor_eq (tg : List Nat) (b : Bk) (x : FV) (env : Env) (st : Store) : kFor sub Γ W tg b x env st = SR.of (bindT env tg x) fun env => exB sub Γ W b env st := Eq.trans rfl rfl
theorem ex_fors (tg : List Nat) (it : IT) (b : Bk) (env : Env) (st : Store) : exS sub Γ W (.fors tg it b) env st = (evIT sub Γ it env st).s env (kFors sub Γ W tg b env) := Eq.trans rfl rfl
theorem ex_whl (c : E) (b : Bk) (env : Env) (st : Store) : exS sub Γ W (.whl c b) env st = whlL (evE sub Γ c) (exB sub Γ W b) W env st := Eq.trans rfl rfl
noncomputable def k3stx (sub : Nat → Nat → Option Bool) (Γ : Call) (env : Env) (v x : PV) (y : FV) (st : Store) : SR := SR.of (putS st x y v) fun st => .nx env st
theorem k3stx_eq (env : Env) (v x : PV) (y : FV) (st : Store) : k3stx sub Γ env v x y st = SR.of (putS st x y v) fun st => .nx env st := Eq.trans rfl rfl
def kFz (k : FV → Store → SR) : PV → Store → SR
  | .f v, st => k v st
  | .r _, _ => .bad
theorem kFz_f (k : FV → Store → SR) (v : FV) (st : Store) : kFz k (.f v) st = k v st := Eq.trans rfl rfl
noncomputable def k2stx (sub : Nat → Nat → Option Bool) (Γ : Call) (i : E) (env : Env) (v : PV) (x : PV) (st : Store) : SR := (evE sub Γ i env st).s env (kFz (k3stx sub Γ env v x))
theorem k2stx_eq (i : E) (env : Env) (v : PV) (x : PV) (st : Store) : k2stx sub Γ i env v x st = (evE sub Γ i env st).s env (kFz (k3stx sub Γ env v x)) := Eq.trans rfl rfl
noncomputable def k1stx (sub : Nat → Nat → Option Bool) (Γ : Call) (a i : E) (env : Env) (v : PV) (st : Store) : SR := (evE sub Γ a env st).s env (k2stx sub Γ i env v)
theorem k1stx_eq (a i : E) (env : Env) (v : PV) (st : Store) : k1stx sub Γ a i env v st = (evE sub Γ a env st).s env (k2stx sub Γ i env v) := Eq.trans rfl rfl
theorem ex_setIx (a i e : E) (env : Env) (st : Store) : exS sub Γ W (.setIx a i e) env st = (evE sub Γ e env st).s env (k1stx sub Γ a i env) := by
  show (evE sub Γ e env st).s env _ = (evE sub Γ e env st).s env _
  congr 1
  funext v st
  show (evE sub Γ a env st).s env _ = (evE sub Γ a env st).s env _
  congr 1
  funext x st
  show (evE sub Γ i env st).s env _ = (evE sub Γ i env st).s env _
  congr 1
  funext y st
  cases y <;> rfl
noncomputable def k2stf (sub : Nat → Nat → Option Bool) (Γ : Call) (c k : Nat) (env : Env) (v : PV) (x : PV) (st : Store) : SR := SR.of (setFldS st c k x v) fun st => .nx env st
theorem k2stf_eq (c k : Nat) (env : Env) (v : PV) (x : PV) (st : Store) : k2stf sub Γ c k env v x st = SR.of (setFldS st c k x v) fun st => .nx env st := Eq.trans rfl rfl
noncomputable def k1stf (sub : Nat → Nat → Option Bool) (Γ : Call) (c k : Nat) (a : E) (env : Env) (v : PV) (st : Store) : SR := (evE sub Γ a env st).s env (k2stf sub Γ c k env v)
theorem k1stf_eq (c k : Nat) (a : E) (env : Env) (v : PV) (st : Store) : k1stf sub Γ c k a env v st = (evE sub Γ a env st).s env (k2stf sub Γ c k env v) := Eq.trans rfl rfl
theorem ex_setFld (c k : Nat) (a e : E) (env : Env) (st : Store) : exS sub Γ W (.setFld c k a e) env st = (evE sub Γ e env st).s env (k1stf sub Γ c k a env) := Eq.trans rfl rfl
theorem bk_nil (env : Env) (st : Store) : exB sub Γ W .nil env st = .nx env st := Eq.trans rfl rfl
theorem bk_cons (s : S) (bk : Bk) (env : Env) (st : Store) : exB sub Γ W (.cons s bk) env st = (exS sub Γ W s env st).bind (exB sub Γ W bk) := Eq.trans rfl rfl
/-! turns of a comprehension -/
theorem lcL_map {h : FV → Store → R (Option FV)} {f : FV → FV} {st : Store} : ∀ (xs acc : List FV), (∀ x ∈ xs, h x st = .ok (some (f x)) st) → acc.length + xs.length ≤ line → lcL h xs acc st = .ok (acc ++ xs.map f) st
  | [], acc, _, _ => by simp [lcL]
  | x :: xs, acc, hx, hl => by
    have hl' : acc.length < line := by simp at hl; omega
    unfold lcL
    rw [if_pos hl', hx x (List.mem_cons_self ..)]
    show lcL h xs (acc ++ [f x]) st = _
    rw [lcL_map xs (acc ++ [f x]) (fun y hy => hx y (List.mem_cons_of_mem _ hy)) (by simp at hl ⊢; omega)]
    simp
theorem lcL_filter {h : FV → Store → R (Option FV)} {p : FV → Bool} {f : FV → FV} {st : Store} : ∀ (xs acc : List FV), (∀ x ∈ xs, h x st = .ok (if p x = true then some (f x) else none) st) → acc.length + xs.length ≤ line → lcL h xs acc st = .ok (acc ++ (xs.filter p).map f) st
  | [], acc, _, _ => by simp [lcL]
  | x :: xs, acc, hx, hl => by
    have hl' : acc.length < line := by simp at hl; omega
    unfold lcL
    rw [if_pos hl', hx x (List.mem_cons_self ..)]
    by_cases c : p x = true
    · rw [if_pos c]
      show lcL h xs (acc ++ [f x]) st = _
      rw [lcL_filter xs (acc ++ [f x]) (fun y hy => hx y (List.mem_cons_of_mem _ hy)) (by simp at hl ⊢; omega)]
      simp [c]
    · rw [if_neg c]
      show lcL h xs acc st = _
      rw [lcL_filter xs acc (fun y hy => hx y (List.mem_cons_of_mem _ hy)) (by simp at hl ⊢; omega)]
      simp [c]
theorem run_succ {prog : Nat → Option Def} {n f : Nat} {d : Def} {args : List PV} {st : Store} (h : prog f = some d) (hl : args.length = d.np) : run sub W prog (n + 1) f args st = leave d st (exB sub (run sub W prog n) W d.body (env0 d args) st) := by
  show (match prog f with | some d => if args.length = d.np then leave d st (exB sub (run sub W prog n) W d.body (env0 d args) st) else .bad | none => .bad) = _
  rw [h]
  exact if_pos hl
theorem leave_rt {d : Def} {st : Store} (h : d.pure = true) (v : FV) : leave d st (.rt (.f v) st) = .ok (.f v) st := by
  show (if d.pure = true then (if st.take st.length = st then R.ok (PV.f v) st else .bad) else _) = _
  rw [if_pos h, if_pos (List.take_length ..)]
theorem leave_exc {d : Def} {st : Store} (h : d.pure = true) (c : Nat) (env : Env) : leave d st (.exc c env st) = .exc c st := by
  show (if d.pure = true then (if st.take st.length = st then R.exc c st else .bad) else _) = _
  rw [if_pos h, if_pos (List.take_length ..)]
theorem leave_rt2 {d : Def} {st st2 : Store} (h : d.pure = true) (h2 : st2.take st.length = st) (v : FV) : leave d st (.rt (.f v) st2) = .ok (.f v) st := by
  show (if d.pure = true then (if st2.take st.length = st then R.ok (PV.f v) st else .bad) else _) = _
  rw [if_pos h, if_pos h2]
end MP

namespace MP
namespace Pl
open Fk
/-! own parts: what the defs give-/
variable {sub : Nat → Nat → Option Bool} {P : Nat → Option Def}
theorem parted_ok (h_parted : P 13 = some d_parted) (W : Nat) : ∀ (n : Nat) (o : Own) (st : Store), o.depth < n → o.depth ≤ 60 → run sub W P n 13 [.f (encO o)] st = .ok (.f (.tup [encO o.parted.1, encO o.parted.2])) st
  | 0, o, st, h, _ => absurd h (Nat.not_lt_zero _)
  | n + 1, .leaf false, st, _, _ => by
    rw [run_succ (d := d_parted) h_parted rfl]
    simp [bind_ok, bind_exc, fr_ok, fr_exc, frI_ok, frI_exc, tst_ok, tst_exc, of_some, s_ok, s_exc, sb_nx, sb_rt, sb_exc, so_some, g_true, kGet_some, ev_v, ev_k, k2bin_eq, k1bin_eq, ev_bin, k2cmp_eq, k1cmp_eq, ev_cmp, k2ix_eq, k1ix_eq, ev_ix, k2dget_eq, k1dget_eq, ev_dget, k2din_eq, k1din_eq, ev_din, k2dnot_eq, k1dnot_eq, ev_dnot, k2cutTo_eq, k1cutTo_eq, ev_cutTo, k2cutFrom_eq, k1cutFrom_eq, ev_cutFrom, k1and_eq, ev_and, k1or_eq, ev_or, k1not_eq, ev_not, k1neg_eq, ev_neg, k1ite_eq, ev_ite, k4chain_eq, k3chain_eq, k2chain_eq, k1chain_eq, ev_chain, k1tup_eq, ev_tup, k1lst_eq, ev_lst, k1mlst_eq, ev_mlst, k1mdic_eq, ev_mdic, ev_call, k1blt_eq, ev_blt, k2meth_eq, k1meth_eq, ev_meth, k1make_eq, ev_make, k2make_ok, k2make_exc, k1fld_eq, ev_fld, k1isi_eq, ev_isi, k2bm_eq, k1bm_eq, ev_bm, k3cut_eq, k2cuti_eq, k2cut_eq, k1cut_eq, ev_cut, kElt_f, kLst_eq, kLcB_some, kLcT_eq, kLc_eq, ev_lc, kIfF_eq, kLcIfB_some, kLcIfT_eq, kLcIf_eq, ev_lcIf, k2es_eq, k1es_eq, es_nil, es_cons, kSeq_eq, it_seq, kRange_eq, it_range, k3rangeS_eq, k2rangeS_eq, k1rangeS_eq, it_rangeS, kEnum_lst, kEnum_scr, it_enum, kZip_lst, k1zip_eq, it_zip, kSet_eq, ex_set, kNx_eq, kUnp_f, ex_unp, k2par_eq, k1par_eq, ex_par, k2app_eq, k1app_eq, ex_app, kIf_b, ex_ifs, kRt_eq, ex_ret, kEx_eq, ex_ex, ex_raise, ex_pass, kTry_exc, kTry_nx, kTry_rt, ex_try, kFors_eq, ex_fors, ex_whl, k3stx_eq, kFz_f, k2stx_eq, k1stx_eq, ex_setIx, k2stf_eq, k1stf_eq, ex_setFld, bk_nil, bk_cons, env0, leave_rt, leave_exc, cmpS, cmpop, binop, intsOf, g_true, allF, bindT, wipeE, okd_int, FV.toInt?, d_parted, encO, bi, Own.parted, FV.eqv]
  | n + 1, .leaf true, st, _, _ => by
    rw [run_succ (d := d_parted) h_parted rfl]
    simp [bind_ok, bind_exc, fr_ok, fr_exc, frI_ok, frI_exc, tst_ok, tst_exc, of_some, s_ok, s_exc, sb_nx, sb_rt, sb_exc, so_some, g_true, kGet_some, ev_v, ev_k, k2bin_eq, k1bin_eq, ev_bin, k2cmp_eq, k1cmp_eq, ev_cmp, k2ix_eq, k1ix_eq, ev_ix, k2dget_eq, k1dget_eq, ev_dget, k2din_eq, k1din_eq, ev_din, k2dnot_eq, k1dnot_eq, ev_dnot, k2cutTo_eq, k1cutTo_eq, ev_cutTo, k2cutFrom_eq, k1cutFrom_eq, ev_cutFrom, k1and_eq, ev_and, k1or_eq, ev_or, k1not_eq, ev_not, k1neg_eq, ev_neg, k1ite_eq, ev_ite, k4chain_eq, k3chain_eq, k2chain_eq, k1chain_eq, ev_chain, k1tup_eq, ev_tup, k1lst_eq, ev_lst, k1mlst_eq, ev_mlst, k1mdic_eq, ev_mdic, ev_call, k1blt_eq, ev_blt, k2meth_eq, k1meth_eq, ev_meth, k1make_eq, ev_make, k2make_ok, k2make_exc, k1fld_eq, ev_fld, k1isi_eq, ev_isi, k2bm_eq, k1bm_eq, ev_bm, k3cut_eq, k2cuti_eq, k2cut_eq, k1cut_eq, ev_cut, kElt_f, kLst_eq, kLcB_some, kLcT_eq, kLc_eq, ev_lc, kIfF_eq, kLcIfB_some, kLcIfT_eq, kLcIf_eq, ev_lcIf, k2es_eq, k1es_eq, es_nil, es_cons, kSeq_eq, it_seq, kRange_eq, it_range, k3rangeS_eq, k2rangeS_eq, k1rangeS_eq, it_rangeS, kEnum_lst, kEnum_scr, it_enum, kZip_lst, k1zip_eq, it_zip, kSet_eq, ex_set, kNx_eq, kUnp_f, ex_unp, k2par_eq, k1par_eq, ex_par, k2app_eq, k1app_eq, ex_app, kIf_b, ex_ifs, kRt_eq, ex_ret, kEx_eq, ex_ex, ex_raise, ex_pass, kTry_exc, kTry_nx, kTry_rt, ex_try, kFors_eq, ex_fors, ex_whl, k3stx_eq, kFz_f, k2stx_eq, k1stx_eq, ex_setIx, k2stf_eq, k1stf_eq, ex_setFld, bk_nil, bk_cons, env0, leave_rt, leave_exc, cmpS, cmpop, binop, intsOf, g_true, allF, bindT, wipeE, okd_int, FV.toInt?, d_parted, encO, bi, Own.parted, FV.eqv]
  | n + 1, .node l r, st, h, h2 => by
    have h' := h
    have h2' := h2
    simp only [Own.depth] at h h2
    have i1 := parted_ok h_parted W n l st (by omega) (by omega)
    have i2 := parted_ok h_parted W n r st (by omega) (by omega)
    have ok := encO_okd h2'
    have okl : (encO l).okd = true := encO_okd (by omega)
    have okr : (encO r).okd = true := encO_okd (by omega)
    have e0 := eqv0 (.node l r)
    have e1 := eqv1 (.node l r)
    rw [encO_node] at e0 e1 ok
    rw [run_succ (d := d_parted) h_parted rfl]
    by_cases c1 : l = .leaf false
    · subst c1
      simp [bind_ok, bind_exc, fr_ok, fr_exc, frI_ok, frI_exc, tst_ok, tst_exc, of_some, s_ok, s_exc, sb_nx, sb_rt, sb_exc, so_some, g_true, kGet_some, ev_v, ev_k, k2bin_eq, k1bin_eq, ev_bin, k2cmp_eq, k1cmp_eq, ev_cmp, k2ix_eq, k1ix_eq, ev_ix, k2dget_eq, k1dget_eq, ev_dget, k2din_eq, k1din_eq, ev_din, k2dnot_eq, k1dnot_eq, ev_dnot, k2cutTo_eq, k1cutTo_eq, ev_cutTo, k2cutFrom_eq, k1cutFrom_eq, ev_cutFrom, k1and_eq, ev_and, k1or_eq, ev_or, k1not_eq, ev_not, k1neg_eq, ev_neg, k1ite_eq, ev_ite, k4chain_eq, k3chain_eq, k2chain_eq, k1chain_eq, ev_chain, k1tup_eq, ev_tup, k1lst_eq, ev_lst, k1mlst_eq, ev_mlst, k1mdic_eq, ev_mdic, ev_call, k1blt_eq, ev_blt, k2meth_eq, k1meth_eq, ev_meth, k1make_eq, ev_make, k2make_ok, k2make_exc, k1fld_eq, ev_fld, k1isi_eq, ev_isi, k2bm_eq, k1bm_eq, ev_bm, k3cut_eq, k2cuti_eq, k2cut_eq, k1cut_eq, ev_cut, kElt_f, kLst_eq, kLcB_some, kLcT_eq, kLc_eq, ev_lc, kIfF_eq, kLcIfB_some, kLcIfT_eq, kLcIf_eq, ev_lcIf, k2es_eq, k1es_eq, es_nil, es_cons, kSeq_eq, it_seq, kRange_eq, it_range, k3rangeS_eq, k2rangeS_eq, k1rangeS_eq, it_rangeS, kEnum_lst, kEnum_scr, it_enum, kZip_lst, k1zip_eq, it_zip, kSet_eq, ex_set, kNx_eq, kUnp_f, ex_unp, k2par_eq, k1par_eq, ex_par, k2app_eq, k1app_eq, ex_app, kIf_b, ex_ifs, kRt_eq, ex_ret, kEx_eq, ex_ex, ex_raise, ex_pass, kTry_exc, kTry_nx, kTry_rt, ex_try, kFors_eq, ex_fors, ex_whl, k3stx_eq, kFz_f, k2stx_eq, k1stx_eq, ex_setIx, k2stf_eq, k1stf_eq, ex_setFld, bk_nil, bk_cons, env0, leave_rt, leave_exc, cmpS, cmpop, binop, intsOf, g_true, allF, bindT, wipeE, okd_int, FV.toInt?, d_parted, ok, e0, e1, eqv0, eqv1, encO_node, Own.parted, okl, okr, i2]
      rfl
    · by_cases c2 : r = .leaf false
      · subst c2
        simp [bind_ok, bind_exc, fr_ok, fr_exc, frI_ok, frI_exc, tst_ok, tst_exc, of_some, s_ok, s_exc, sb_nx, sb_rt, sb_exc, so_some, g_true, kGet_some, ev_v, ev_k, k2bin_eq, k1bin_eq, ev_bin, k2cmp_eq, k1cmp_eq, ev_cmp, k2ix_eq, k1ix_eq, ev_ix, k2dget_eq, k1dget_eq, ev_dget, k2din_eq, k1din_eq, ev_din, k2dnot_eq, k1dnot_eq, ev_dnot, k2cutTo_eq, k1cutTo_eq, ev_cutTo, k2cutFrom_eq, k1cutFrom_eq, ev_cutFrom, k1and_eq, ev_and, k1or_eq, ev_or, k1not_eq, ev_not, k1neg_eq, ev_neg, k1ite_eq, ev_ite, k4chain_eq, k3chain_eq, k2chain_eq, k1chain_eq, ev_chain, k1tup_eq, ev_tup, k1lst_eq, ev_lst, k1mlst_eq, ev_mlst, k1mdic_eq, ev_mdic, ev_call, k1blt_eq, ev_blt, k2meth_eq, k1meth_eq, ev_meth, k1make_eq, ev_make, k2make_ok, k2make_exc, k1fld_eq, ev_fld, k1isi_eq, ev_isi, k2bm_eq, k1bm_eq, ev_bm, k3cut_eq, k2cuti_eq, k2cut_eq, k1cut_eq, ev_cut, kElt_f, kLst_eq, kLcB_some, kLcT_eq, kLc_eq, ev_lc, kIfF_eq, kLcIfB_some, kLcIfT_eq, kLcIf_eq, ev_lcIf, k2es_eq, k1es_eq, es_nil, es_cons, kSeq_eq, it_seq, kRange_eq, it_range, k3rangeS_eq, k2rangeS_eq, k1rangeS_eq, it_rangeS, kEnum_lst, kEnum_scr, it_enum, kZip_lst, k1zip_eq, it_zip, kSet_eq, ex_set, kNx_eq, kUnp_f, ex_unp, k2par_eq, k1par_eq, ex_par, k2app_eq, k1app_eq, ex_app, kIf_b, ex_ifs, kRt_eq, ex_ret, kEx_eq, ex_ex, ex_raise, ex_pass, kTry_exc, kTry_nx, kTry_rt, ex_try, kFors_eq, ex_fors, ex_whl, k3stx_eq, kFz_f, k2stx_eq, k1stx_eq, ex_setIx, k2stf_eq, k1stf_eq, ex_setFld, bk_nil, bk_cons, env0, leave_rt, leave_exc, cmpS, cmpop, binop, intsOf, g_true, allF, bindT, wipeE, okd_int, FV.toInt?, d_parted, ok, e0, e1, eqv0, eqv1, encO_node, Own.parted, okl, okr, c1, i1]
        rfl
      · simp [bind_ok, bind_exc, fr_ok, fr_exc, frI_ok, frI_exc, tst_ok, tst_exc, of_some, s_ok, s_exc, sb_nx, sb_rt, sb_exc, so_some, g_true, kGet_some, ev_v, ev_k, k2bin_eq, k1bin_eq, ev_bin, k2cmp_eq, k1cmp_eq, ev_cmp, k2ix_eq, k1ix_eq, ev_ix, k2dget_eq, k1dget_eq, ev_dget, k2din_eq, k1din_eq, ev_din, k2dnot_eq, k1dnot_eq, ev_dnot, k2cutTo_eq, k1cutTo_eq, ev_cutTo, k2cutFrom_eq, k1cutFrom_eq, ev_cutFrom, k1and_eq, ev_and, k1or_eq, ev_or, k1not_eq, ev_not, k1neg_eq, ev_neg, k1ite_eq, ev_ite, k4chain_eq, k3chain_eq, k2chain_eq, k1chain_eq, ev_chain, k1tup_eq, ev_tup, k1lst_eq, ev_lst, k1mlst_eq, ev_mlst, k1mdic_eq, ev_mdic, ev_call, k1blt_eq, ev_blt, k2meth_eq, k1meth_eq, ev_meth, k1make_eq, ev_make, k2make_ok, k2make_exc, k1fld_eq, ev_fld, k1isi_eq, ev_isi, k2bm_eq, k1bm_eq, ev_bm, k3cut_eq, k2cuti_eq, k2cut_eq, k1cut_eq, ev_cut, kElt_f, kLst_eq, kLcB_some, kLcT_eq, kLc_eq, ev_lc, kIfF_eq, kLcIfB_some, kLcIfT_eq, kLcIf_eq, ev_lcIf, k2es_eq, k1es_eq, es_nil, es_cons, kSeq_eq, it_seq, kRange_eq, it_range, k3rangeS_eq, k2rangeS_eq, k1rangeS_eq, it_rangeS, kEnum_lst, kEnum_scr, it_enum, kZip_lst, k1zip_eq, it_zip, kSet_eq, ex_set, kNx_eq, kUnp_f, ex_unp, k2par_eq, k1par_eq, ex_par, k2app_eq, k1app_eq, ex_app, kIf_b, ex_ifs, kRt_eq, ex_ret, kEx_eq, ex_ex, ex_raise, ex_pass, kTry_exc, kTry_nx, kTry_rt, ex_try, kFors_eq, ex_fors, ex_whl, k3stx_eq, kFz_f, k2stx_eq, k1stx_eq, ex_setIx, k2stf_eq, k1stf_eq, ex_setFld, bk_nil, bk_cons, env0, leave_rt, leave_exc, cmpS, cmpop, binop, intsOf, g_true, allF, bindT, wipeE, okd_int, FV.toInt?, d_parted, ok, e0, e1, eqv0, eqv1, encO_node, Own.parted, okl, okr, c1, c2]
        rfl
theorem paired_ok (h_paired : P 4 = some d_paired) (W n : Nat) (l r : Own) (st : Store) (hl : l.depth ≤ 60) (hr : r.depth ≤ 60) : run sub W P (n + 1) 4 [.f (encO l), .f (encO r)] st = .ok (.f (encO (l.paired r))) st := by
  rw [run_succ (d := d_paired) h_paired rfl]
  have okl := encO_okd hl
  have okr := encO_okd hr
  by_cases c : l = r
  · subst c
    cases e : l.isNode <;> simp [bind_ok, bind_exc, fr_ok, fr_exc, frI_ok, frI_exc, tst_ok, tst_exc, of_some, s_ok, s_exc, sb_nx, sb_rt, sb_exc, so_some, g_true, kGet_some, ev_v, ev_k, k2bin_eq, k1bin_eq, ev_bin, k2cmp_eq, k1cmp_eq, ev_cmp, k2ix_eq, k1ix_eq, ev_ix, k2dget_eq, k1dget_eq, ev_dget, k2din_eq, k1din_eq, ev_din, k2dnot_eq, k1dnot_eq, ev_dnot, k2cutTo_eq, k1cutTo_eq, ev_cutTo, k2cutFrom_eq, k1cutFrom_eq, ev_cutFrom, k1and_eq, ev_and, k1or_eq, ev_or, k1not_eq, ev_not, k1neg_eq, ev_neg, k1ite_eq, ev_ite, k4chain_eq, k3chain_eq, k2chain_eq, k1chain_eq, ev_chain, k1tup_eq, ev_tup, k1lst_eq, ev_lst, k1mlst_eq, ev_mlst, k1mdic_eq, ev_mdic, ev_call, k1blt_eq, ev_blt, k2meth_eq, k1meth_eq, ev_meth, k1make_eq, ev_make, k2make_ok, k2make_exc, k1fld_eq, ev_fld, k1isi_eq, ev_isi, k2bm_eq, k1bm_eq, ev_bm, k3cut_eq, k2cuti_eq, k2cut_eq, k1cut_eq, ev_cut, kElt_f, kLst_eq, kLcB_some, kLcT_eq, kLc_eq, ev_lc, kIfF_eq, kLcIfB_some, kLcIfT_eq, kLcIf_eq, ev_lcIf, k2es_eq, k1es_eq, es_nil, es_cons, kSeq_eq, it_seq, kRange_eq, it_range, k3rangeS_eq, k2rangeS_eq, k1rangeS_eq, it_rangeS, kEnum_lst, kEnum_scr, it_enum, kZip_lst, k1zip_eq, it_zip, kSet_eq, ex_set, kNx_eq, kUnp_f, ex_unp, k2par_eq, k1par_eq, ex_par, k2app_eq, k1app_eq, ex_app, kIf_b, ex_ifs, kRt_eq, ex_ret, kEx_eq, ex_ex, ex_raise, ex_pass, kTry_exc, kTry_nx, kTry_rt, ex_try, kFors_eq, ex_fors, ex_whl, k3stx_eq, kFz_f, k2stx_eq, k1stx_eq, ex_setIx, k2stf_eq, k1stf_eq, ex_setFld, bk_nil, bk_cons, env0, leave_rt, leave_exc, cmpS, cmpop, binop, intsOf, g_true, allF, bindT, wipeE, okd_int, FV.toInt?, d_paired, okl, encO_eqv, encO_isi, Own.paired, e, encO_node]
  · simp [bind_ok, bind_exc, fr_ok, fr_exc, frI_ok, frI_exc, tst_ok, tst_exc, of_some, s_ok, s_exc, sb_nx, sb_rt, sb_exc, so_some, g_true, kGet_some, ev_v, ev_k, k2bin_eq, k1bin_eq, ev_bin, k2cmp_eq, k1cmp_eq, ev_cmp, k2ix_eq, k1ix_eq, ev_ix, k2dget_eq, k1dget_eq, ev_dget, k2din_eq, k1din_eq, ev_din, k2dnot_eq, k1dnot_eq, ev_dnot, k2cutTo_eq, k1cutTo_eq, ev_cutTo, k2cutFrom_eq, k1cutFrom_eq, ev_cutFrom, k1and_eq, ev_and, k1or_eq, ev_or, k1not_eq, ev_not, k1neg_eq, ev_neg, k1ite_eq, ev_ite, k4chain_eq, k3chain_eq, k2chain_eq, k1chain_eq, ev_chain, k1tup_eq, ev_tup, k1lst_eq, ev_lst, k1mlst_eq, ev_mlst, k1mdic_eq, ev_mdic, ev_call, k1blt_eq, ev_blt, k2meth_eq, k1meth_eq, ev_meth, k1make_eq, ev_make, k2make_ok, k2make_exc, k1fld_eq, ev_fld, k1isi_eq, ev_isi, k2bm_eq, k1bm_eq, ev_bm, k3cut_eq, k2cuti_eq, k2cut_eq, k1cut_eq, ev_cut, kElt_f, kLst_eq, kLcB_some, kLcT_eq, kLc_eq, ev_lc, kIfF_eq, kLcIfB_some, kLcIfT_eq, kLcIf_eq, ev_lcIf, k2es_eq, k1es_eq, es_nil, es_cons, kSeq_eq, it_seq, kRange_eq, it_range, k3rangeS_eq, k2rangeS_eq, k1rangeS_eq, it_rangeS, kEnum_lst, kEnum_scr, it_enum, kZip_lst, k1zip_eq, it_zip, kSet_eq, ex_set, kNx_eq, kUnp_f, ex_unp, k2par_eq, k1par_eq, ex_par, k2app_eq, k1app_eq, ex_app, kIf_b, ex_ifs, kRt_eq, ex_ret, kEx_eq, ex_ex, ex_raise, ex_pass, kTry_exc, kTry_nx, kTry_rt, ex_try, kFors_eq, ex_fors, ex_whl, k3stx_eq, kFz_f, k2stx_eq, k1stx_eq, ex_setIx, k2stf_eq, k1stf_eq, ex_setFld, bk_nil, bk_cons, env0, leave_rt, leave_exc, cmpS, cmpop, binop, intsOf, g_true, allF, bindT, wipeE, okd_int, FV.toInt?, d_paired, okl, okr, encO_eqv, c, Own.paired, encO_node]
theorem shares_ok (h_shares : P 14 = some d_shares) (W : Nat) : ∀ (n : Nat) (a b : Own) (st : Store), a.depth < n → a.depth ≤ 60 → b.depth ≤ 60 → run sub W P n 14 [.f (encO a), .f (encO b)] st = .ok (.f (.bl (a.shares b))) st
  | 0, _, _, _, h, _, _ => absurd h (Nat.not_lt_zero _)
  | n + 1, .leaf false, b, st, _, h1, h2 => by
    rw [run_succ (d := d_shares) h_shares rfl]
    simp [bind_ok, bind_exc, fr_ok, fr_exc, frI_ok, frI_exc, tst_ok, tst_exc, of_some, s_ok, s_exc, sb_nx, sb_rt, sb_exc, so_some, g_true, kGet_some, ev_v, ev_k, k2bin_eq, k1bin_eq, ev_bin, k2cmp_eq, k1cmp_eq, ev_cmp, k2ix_eq, k1ix_eq, ev_ix, k2dget_eq, k1dget_eq, ev_dget, k2din_eq, k1din_eq, ev_din, k2dnot_eq, k1dnot_eq, ev_dnot, k2cutTo_eq, k1cutTo_eq, ev_cutTo, k2cutFrom_eq, k1cutFrom_eq, ev_cutFrom, k1and_eq, ev_and, k1or_eq, ev_or, k1not_eq, ev_not, k1neg_eq, ev_neg, k1ite_eq, ev_ite, k4chain_eq, k3chain_eq, k2chain_eq, k1chain_eq, ev_chain, k1tup_eq, ev_tup, k1lst_eq, ev_lst, k1mlst_eq, ev_mlst, k1mdic_eq, ev_mdic, ev_call, k1blt_eq, ev_blt, k2meth_eq, k1meth_eq, ev_meth, k1make_eq, ev_make, k2make_ok, k2make_exc, k1fld_eq, ev_fld, k1isi_eq, ev_isi, k2bm_eq, k1bm_eq, ev_bm, k3cut_eq, k2cuti_eq, k2cut_eq, k1cut_eq, ev_cut, kElt_f, kLst_eq, kLcB_some, kLcT_eq, kLc_eq, ev_lc, kIfF_eq, kLcIfB_some, kLcIfT_eq, kLcIf_eq, ev_lcIf, k2es_eq, k1es_eq, es_nil, es_cons, kSeq_eq, it_seq, kRange_eq, it_range, k3rangeS_eq, k2rangeS_eq, k1rangeS_eq, it_rangeS, kEnum_lst, kEnum_scr, it_enum, kZip_lst, k1zip_eq, it_zip, kSet_eq, ex_set, kNx_eq, kUnp_f, ex_unp, k2par_eq, k1par_eq, ex_par, k2app_eq, k1app_eq, ex_app, kIf_b, ex_ifs, kRt_eq, ex_ret, kEx_eq, ex_ex, ex_raise, ex_pass, kTry_exc, kTry_nx, kTry_rt, ex_try, kFors_eq, ex_fors, ex_whl, k3stx_eq, kFz_f, k2stx_eq, k1stx_eq, ex_setIx, k2stf_eq, k1stf_eq, ex_setFld, bk_nil, bk_cons, env0, leave_rt, leave_exc, cmpS, cmpop, binop, intsOf, g_true, allF, bindT, wipeE, okd_int, FV.toInt?, d_shares, encO_okd h1, encO_okd h2, eqv0, eqv1, Own.shares_false_l]
  | n + 1, .leaf true, .leaf false, st, _, h1, h2 => by
    rw [run_succ (d := d_shares) h_shares rfl]
    simp [bind_ok, bind_exc, fr_ok, fr_exc, frI_ok, frI_exc, tst_ok, tst_exc, of_some, s_ok, s_exc, sb_nx, sb_rt, sb_exc, so_some, g_true, kGet_some, ev_v, ev_k, k2bin_eq, k1bin_eq, ev_bin, k2cmp_eq, k1cmp_eq, ev_cmp, k2ix_eq, k1ix_eq, ev_ix, k2dget_eq, k1dget_eq, ev_dget, k2din_eq, k1din_eq, ev_din, k2dnot_eq, k1dnot_eq, ev_dnot, k2cutTo_eq, k1cutTo_eq, ev_cutTo, k2cutFrom_eq, k1cutFrom_eq, ev_cutFrom, k1and_eq, ev_and, k1or_eq, ev_or, k1not_eq, ev_not, k1neg_eq, ev_neg, k1ite_eq, ev_ite, k4chain_eq, k3chain_eq, k2chain_eq, k1chain_eq, ev_chain, k1tup_eq, ev_tup, k1lst_eq, ev_lst, k1mlst_eq, ev_mlst, k1mdic_eq, ev_mdic, ev_call, k1blt_eq, ev_blt, k2meth_eq, k1meth_eq, ev_meth, k1make_eq, ev_make, k2make_ok, k2make_exc, k1fld_eq, ev_fld, k1isi_eq, ev_isi, k2bm_eq, k1bm_eq, ev_bm, k3cut_eq, k2cuti_eq, k2cut_eq, k1cut_eq, ev_cut, kElt_f, kLst_eq, kLcB_some, kLcT_eq, kLc_eq, ev_lc, kIfF_eq, kLcIfB_some, kLcIfT_eq, kLcIf_eq, ev_lcIf, k2es_eq, k1es_eq, es_nil, es_cons, kSeq_eq, it_seq, kRange_eq, it_range, k3rangeS_eq, k2rangeS_eq, k1rangeS_eq, it_rangeS, kEnum_lst, kEnum_scr, it_enum, kZip_lst, k1zip_eq, it_zip, kSet_eq, ex_set, kNx_eq, kUnp_f, ex_unp, k2par_eq, k1par_eq, ex_par, k2app_eq, k1app_eq, ex_app, kIf_b, ex_ifs, kRt_eq, ex_ret, kEx_eq, ex_ex, ex_raise, ex_pass, kTry_exc, kTry_nx, kTry_rt, ex_try, kFors_eq, ex_fors, ex_whl, k3stx_eq, kFz_f, k2stx_eq, k1stx_eq, ex_setIx, k2stf_eq, k1stf_eq, ex_setFld, bk_nil, bk_cons, env0, leave_rt, leave_exc, cmpS, cmpop, binop, intsOf, g_true, allF, bindT, wipeE, okd_int, FV.toInt?, d_shares, encO_okd h1, encO_okd h2, eqv0, eqv1, Own.shares]
  | n + 1, .leaf true, .leaf true, st, _, h1, h2 => by
    rw [run_succ (d := d_shares) h_shares rfl]
    simp [bind_ok, bind_exc, fr_ok, fr_exc, frI_ok, frI_exc, tst_ok, tst_exc, of_some, s_ok, s_exc, sb_nx, sb_rt, sb_exc, so_some, g_true, kGet_some, ev_v, ev_k, k2bin_eq, k1bin_eq, ev_bin, k2cmp_eq, k1cmp_eq, ev_cmp, k2ix_eq, k1ix_eq, ev_ix, k2dget_eq, k1dget_eq, ev_dget, k2din_eq, k1din_eq, ev_din, k2dnot_eq, k1dnot_eq, ev_dnot, k2cutTo_eq, k1cutTo_eq, ev_cutTo, k2cutFrom_eq, k1cutFrom_eq, ev_cutFrom, k1and_eq, ev_and, k1or_eq, ev_or, k1not_eq, ev_not, k1neg_eq, ev_neg, k1ite_eq, ev_ite, k4chain_eq, k3chain_eq, k2chain_eq, k1chain_eq, ev_chain, k1tup_eq, ev_tup, k1lst_eq, ev_lst, k1mlst_eq, ev_mlst, k1mdic_eq, ev_mdic, ev_call, k1blt_eq, ev_blt, k2meth_eq, k1meth_eq, ev_meth, k1make_eq, ev_make, k2make_ok, k2make_exc, k1fld_eq, ev_fld, k1isi_eq, ev_isi, k2bm_eq, k1bm_eq, ev_bm, k3cut_eq, k2cuti_eq, k2cut_eq, k1cut_eq, ev_cut, kElt_f, kLst_eq, kLcB_some, kLcT_eq, kLc_eq, ev_lc, kIfF_eq, kLcIfB_some, kLcIfT_eq, kLcIf_eq, ev_lcIf, k2es_eq, k1es_eq, es_nil, es_cons, kSeq_eq, it_seq, kRange_eq, it_range, k3rangeS_eq, k2rangeS_eq, k1rangeS_eq, it_rangeS, kEnum_lst, kEnum_scr, it_enum, kZip_lst, k1zip_eq, it_zip, kSet_eq, ex_set, kNx_eq, kUnp_f, ex_unp, k2par_eq, k1par_eq, ex_par, k2app_eq, k1app_eq, ex_app, kIf_b, ex_ifs, kRt_eq, ex_ret, kEx_eq, ex_ex, ex_raise, ex_pass, kTry_exc, kTry_nx, kTry_rt, ex_try, kFors_eq, ex_fors, ex_whl, k3stx_eq, kFz_f, k2stx_eq, k1stx_eq, ex_setIx, k2stf_eq, k1stf_eq, ex_setFld, bk_nil, bk_cons, env0, leave_rt, leave_exc, cmpS, cmpop, binop, intsOf, g_true, allF, bindT, wipeE, okd_int, FV.toInt?, d_shares, encO_okd h1, encO_okd h2, eqv0, eqv1, Own.shares]
  | n + 1, .leaf true, .node a b, st, _, h1, h2 => by
    rw [run_succ (d := d_shares) h_shares rfl]
    simp [bind_ok, bind_exc, fr_ok, fr_exc, frI_ok, frI_exc, tst_ok, tst_exc, of_some, s_ok, s_exc, sb_nx, sb_rt, sb_exc, so_some, g_true, kGet_some, ev_v, ev_k, k2bin_eq, k1bin_eq, ev_bin, k2cmp_eq, k1cmp_eq, ev_cmp, k2ix_eq, k1ix_eq, ev_ix, k2dget_eq, k1dget_eq, ev_dget, k2din_eq, k1din_eq, ev_din, k2dnot_eq, k1dnot_eq, ev_dnot, k2cutTo_eq, k1cutTo_eq, ev_cutTo, k2cutFrom_eq, k1cutFrom_eq, ev_cutFrom, k1and_eq, ev_and, k1or_eq, ev_or, k1not_eq, ev_not, k1neg_eq, ev_neg, k1ite_eq, ev_ite, k4chain_eq, k3chain_eq, k2chain_eq, k1chain_eq, ev_chain, k1tup_eq, ev_tup, k1lst_eq, ev_lst, k1mlst_eq, ev_mlst, k1mdic_eq, ev_mdic, ev_call, k1blt_eq, ev_blt, k2meth_eq, k1meth_eq, ev_meth, k1make_eq, ev_make, k2make_ok, k2make_exc, k1fld_eq, ev_fld, k1isi_eq, ev_isi, k2bm_eq, k1bm_eq, ev_bm, k3cut_eq, k2cuti_eq, k2cut_eq, k1cut_eq, ev_cut, kElt_f, kLst_eq, kLcB_some, kLcT_eq, kLc_eq, ev_lc, kIfF_eq, kLcIfB_some, kLcIfT_eq, kLcIf_eq, ev_lcIf, k2es_eq, k1es_eq, es_nil, es_cons, kSeq_eq, it_seq, kRange_eq, it_range, k3rangeS_eq, k2rangeS_eq, k1rangeS_eq, it_rangeS, kEnum_lst, kEnum_scr, it_enum, kZip_lst, k1zip_eq, it_zip, kSet_eq, ex_set, kNx_eq, kUnp_f, ex_unp, k2par_eq, k1par_eq, ex_par, k2app_eq, k1app_eq, ex_app, kIf_b, ex_ifs, kRt_eq, ex_ret, kEx_eq, ex_ex, ex_raise, ex_pass, kTry_exc, kTry_nx, kTry_rt, ex_try, kFors_eq, ex_fors, ex_whl, k3stx_eq, kFz_f, k2stx_eq, k1stx_eq, ex_setIx, k2stf_eq, k1stf_eq, ex_setFld, bk_nil, bk_cons, env0, leave_rt, leave_exc, cmpS, cmpop, binop, intsOf, g_true, allF, bindT, wipeE, okd_int, FV.toInt?, d_shares, encO_okd h1, encO_okd h2, eqv0, eqv1, Own.shares]
  | n + 1, .node a b, .leaf false, st, _, h1, h2 => by
    rw [run_succ (d := d_shares) h_shares rfl]
    simp [bind_ok, bind_exc, fr_ok, fr_exc, frI_ok, frI_exc, tst_ok, tst_exc, of_some, s_ok, s_exc, sb_nx, sb_rt, sb_exc, so_some, g_true, kGet_some, ev_v, ev_k, k2bin_eq, k1bin_eq, ev_bin, k2cmp_eq, k1cmp_eq, ev_cmp, k2ix_eq, k1ix_eq, ev_ix, k2dget_eq, k1dget_eq, ev_dget, k2din_eq, k1din_eq, ev_din, k2dnot_eq, k1dnot_eq, ev_dnot, k2cutTo_eq, k1cutTo_eq, ev_cutTo, k2cutFrom_eq, k1cutFrom_eq, ev_cutFrom, k1and_eq, ev_and, k1or_eq, ev_or, k1not_eq, ev_not, k1neg_eq, ev_neg, k1ite_eq, ev_ite, k4chain_eq, k3chain_eq, k2chain_eq, k1chain_eq, ev_chain, k1tup_eq, ev_tup, k1lst_eq, ev_lst, k1mlst_eq, ev_mlst, k1mdic_eq, ev_mdic, ev_call, k1blt_eq, ev_blt, k2meth_eq, k1meth_eq, ev_meth, k1make_eq, ev_make, k2make_ok, k2make_exc, k1fld_eq, ev_fld, k1isi_eq, ev_isi, k2bm_eq, k1bm_eq, ev_bm, k3cut_eq, k2cuti_eq, k2cut_eq, k1cut_eq, ev_cut, kElt_f, kLst_eq, kLcB_some, kLcT_eq, kLc_eq, ev_lc, kIfF_eq, kLcIfB_some, kLcIfT_eq, kLcIf_eq, ev_lcIf, k2es_eq, k1es_eq, es_nil, es_cons, kSeq_eq, it_seq, kRange_eq, it_range, k3rangeS_eq, k2rangeS_eq, k1rangeS_eq, it_rangeS, kEnum_lst, kEnum_scr, it_enum, kZip_lst, k1zip_eq, it_zip, kSet_eq, ex_set, kNx_eq, kUnp_f, ex_unp, k2par_eq, k1par_eq, ex_par, k2app_eq, k1app_eq, ex_app, kIf_b, ex_ifs, kRt_eq, ex_ret, kEx_eq, ex_ex, ex_raise, ex_pass, kTry_exc, kTry_nx, kTry_rt, ex_try, kFors_eq, ex_fors, ex_whl, k3stx_eq, kFz_f, k2stx_eq, k1stx_eq, ex_setIx, k2stf_eq, k1stf_eq, ex_setFld, bk_nil, bk_cons, env0, leave_rt, leave_exc, cmpS, cmpop, binop, intsOf, g_true, allF, bindT, wipeE, okd_int, FV.toInt?, d_shares, encO_okd h1, encO_okd h2, eqv0, eqv1, Own.shares]
  | n + 1, .node a b, .leaf true, st, _, h1, h2 => by
    rw [run_succ (d := d_shares) h_shares rfl]
    simp [bind_ok, bind_exc, fr_ok, fr_exc, frI_ok, frI_exc, tst_ok, tst_exc, of_some, s_ok, s_exc, sb_nx, sb_rt, sb_exc, so_some, g_true, kGet_some, ev_v, ev_k, k2bin_eq, k1bin_eq, ev_bin, k2cmp_eq, k1cmp_eq, ev_cmp, k2ix_eq, k1ix_eq, ev_ix, k2dget_eq, k1dget_eq, ev_dget, k2din_eq, k1din_eq, ev_din, k2dnot_eq, k1dnot_eq, ev_dnot, k2cutTo_eq, k1cutTo_eq, ev_cutTo, k2cutFrom_eq, k1cutFrom_eq, ev_cutFrom, k1and_eq, ev_and, k1or_eq, ev_or, k1not_eq, ev_not, k1neg_eq, ev_neg, k1ite_eq, ev_ite, k4chain_eq, k3chain_eq, k2chain_eq, k1chain_eq, ev_chain, k1tup_eq, ev_tup, k1lst_eq, ev_lst, k1mlst_eq, ev_mlst, k1mdic_eq, ev_mdic, ev_call, k1blt_eq, ev_blt, k2meth_eq, k1meth_eq, ev_meth, k1make_eq, ev_make, k2make_ok, k2make_exc, k1fld_eq, ev_fld, k1isi_eq, ev_isi, k2bm_eq, k1bm_eq, ev_bm, k3cut_eq, k2cuti_eq, k2cut_eq, k1cut_eq, ev_cut, kElt_f, kLst_eq, kLcB_some, kLcT_eq, kLc_eq, ev_lc, kIfF_eq, kLcIfB_some, kLcIfT_eq, kLcIf_eq, ev_lcIf, k2es_eq, k1es_eq, es_nil, es_cons, kSeq_eq, it_seq, kRange_eq, it_range, k3rangeS_eq, k2rangeS_eq, k1rangeS_eq, it_rangeS, kEnum_lst, kEnum_scr, it_enum, kZip_lst, k1zip_eq, it_zip, kSet_eq, ex_set, kNx_eq, kUnp_f, ex_unp, k2par_eq, k1par_eq, ex_par, k2app_eq, k1app_eq, ex_app, kIf_b, ex_ifs, kRt_eq, ex_ret, kEx_eq, ex_ex, ex_raise, ex_pass, kTry_exc, kTry_nx, kTry_rt, ex_try, kFors_eq, ex_fors, ex_whl, k3stx_eq, kFz_f, k2stx_eq, k1stx_eq, ex_setIx, k2stf_eq, k1stf_eq, ex_setFld, bk_nil, bk_cons, env0, leave_rt, leave_exc, cmpS, cmpop, binop, intsOf, g_true, allF, bindT, wipeE, okd_int, FV.toInt?, d_shares, encO_okd h1, encO_okd h2, eqv0, eqv1, Own.shares]
  | n + 1, .node l r, .node l' r', st, h, h1, h2 => by
    have ok1 := encO_okd h1
    have ok2 := encO_okd h2
    have e0 := eqv0 (.node l r)
    have e1 := eqv1 (.node l r)
    have e0' := eqv0 (.node l' r')
    have e1' := eqv1 (.node l' r')
    rw [encO_node] at ok1 ok2 e0 e1 e0' e1'
    simp only [Own.depth] at h h1 h2
    have i1 := shares_ok h_shares W n l l' st (by omega) (by omega) (by omega)
    have i2 := shares_ok h_shares W n r r' st (by omega) (by omega) (by omega)
    rw [run_succ (d := d_shares) h_shares rfl]
    simp [bind_ok, bind_exc, fr_ok, fr_exc, frI_ok, frI_exc, tst_ok, tst_exc, of_some, s_ok, s_exc, sb_nx, sb_rt, sb_exc, so_some, g_true, kGet_some, ev_v, ev_k, k2bin_eq, k1bin_eq, ev_bin, k2cmp_eq, k1cmp_eq, ev_cmp, k2ix_eq, k1ix_eq, ev_ix, k2dget_eq, k1dget_eq, ev_dget, k2din_eq, k1din_eq, ev_din, k2dnot_eq, k1dnot_eq, ev_dnot, k2cutTo_eq, k1cutTo_eq, ev_cutTo, k2cutFrom_eq, k1cutFrom_eq, ev_cutFrom, k1and_eq, ev_and, k1or_eq, ev_or, k1not_eq, ev_not, k1neg_eq, ev_neg, k1ite_eq, ev_ite, k4chain_eq, k3chain_eq, k2chain_eq, k1chain_eq, ev_chain, k1tup_eq, ev_tup, k1lst_eq, ev_lst, k1mlst_eq, ev_mlst, k1mdic_eq, ev_mdic, ev_call, k1blt_eq, ev_blt, k2meth_eq, k1meth_eq, ev_meth, k1make_eq, ev_make, k2make_ok, k2make_exc, k1fld_eq, ev_fld, k1isi_eq, ev_isi, k2bm_eq, k1bm_eq, ev_bm, k3cut_eq, k2cuti_eq, k2cut_eq, k1cut_eq, ev_cut, kElt_f, kLst_eq, kLcB_some, kLcT_eq, kLc_eq, ev_lc, kIfF_eq, kLcIfB_some, kLcIfT_eq, kLcIf_eq, ev_lcIf, k2es_eq, k1es_eq, es_nil, es_cons, kSeq_eq, it_seq, kRange_eq, it_range, k3rangeS_eq, k2rangeS_eq, k1rangeS_eq, it_rangeS, kEnum_lst, kEnum_scr, it_enum, kZip_lst, k1zip_eq, it_zip, kSet_eq, ex_set, kNx_eq, kUnp_f, ex_unp, k2par_eq, k1par_eq, ex_par, k2app_eq, k1app_eq, ex_app, kIf_b, ex_ifs, kRt_eq, ex_ret, kEx_eq, ex_ex, ex_raise, ex_pass, kTry_exc, kTry_nx, kTry_rt, ex_try, kFors_eq, ex_fors, ex_whl, k3stx_eq, kFz_f, k2stx_eq, k1stx_eq, ex_setIx, k2stf_eq, k1stf_eq, ex_setFld, bk_nil, bk_cons, env0, leave_rt, leave_exc, cmpS, cmpop, binop, intsOf, g_true, allF, bindT, wipeE, okd_int, FV.toInt?, d_shares, ok1, ok2, e0, e1, e0', e1', encO_node, Own.shares, i1, i2, ixS, atIx]
    cases l.shares l' <;> simp [bind_ok, bind_exc, fr_ok, fr_exc, frI_ok, frI_exc, tst_ok, tst_exc, of_some, s_ok, s_exc, sb_nx, sb_rt, sb_exc, so_some, g_true, kGet_some, ev_v, ev_k, k2bin_eq, k1bin_eq, ev_bin, k2cmp_eq, k1cmp_eq, ev_cmp, k2ix_eq, k1ix_eq, ev_ix, k2dget_eq, k1dget_eq, ev_dget, k2din_eq, k1din_eq, ev_din, k2dnot_eq, k1dnot_eq, ev_dnot, k2cutTo_eq, k1cutTo_eq, ev_cutTo, k2cutFrom_eq, k1cutFrom_eq, ev_cutFrom, k1and_eq, ev_and, k1or_eq, ev_or, k1not_eq, ev_not, k1neg_eq, ev_neg, k1ite_eq, ev_ite, k4chain_eq, k3chain_eq, k2chain_eq, k1chain_eq, ev_chain, k1tup_eq, ev_tup, k1lst_eq, ev_lst, k1mlst_eq, ev_mlst, k1mdic_eq, ev_mdic, ev_call, k1blt_eq, ev_blt, k2meth_eq, k1meth_eq, ev_meth, k1make_eq, ev_make, k2make_ok, k2make_exc, k1fld_eq, ev_fld, k1isi_eq, ev_isi, k2bm_eq, k1bm_eq, ev_bm, k3cut_eq, k2cuti_eq, k2cut_eq, k1cut_eq, ev_cut, kElt_f, kLst_eq, kLcB_some, kLcT_eq, kLc_eq, ev_lc, kIfF_eq, kLcIfB_some, kLcIfT_eq, kLcIf_eq, ev_lcIf, k2es_eq, k1es_eq, es_nil, es_cons, kSeq_eq, it_seq, kRange_eq, it_range, k3rangeS_eq, k2rangeS_eq, k1rangeS_eq, it_rangeS, kEnum_lst, kEnum_scr, it_enum, kZip_lst, k1zip_eq, it_zip, kSet_eq, ex_set, kNx_eq, kUnp_f, ex_unp, k2par_eq, k1par_eq, ex_par, k2app_eq, k1app_eq, ex_app, kIf_b, ex_ifs, kRt_eq, ex_ret, kEx_eq, ex_ex, ex_raise, ex_pass, kTry_exc, kTry_nx, kTry_rt, ex_try, kFors_eq, ex_fors, ex_whl, k3stx_eq, kFz_f, k2stx_eq, k1stx_eq, ex_setIx, k2stf_eq, k1stf_eq, ex_setFld, bk_nil, bk_cons, env0, leave_rt, leave_exc, cmpS, cmpop, binop, intsOf, g_true, allF, bindT, wipeE, okd_int, FV.toInt?, bind_ok]
theorem together_ok (h_together : P 15 = some d_together) (h_paired : P 4 = some d_paired) (W : Nat) : ∀ (n : Nat) (a b : Own) (st : Store), a.depth + 1 < n → a.depth ≤ 60 → b.depth ≤ 60 → run sub W P n 15 [.f (encO a), .f (encO b)] st = if a.shares b = true then .exc 13 st else .ok (.f (encO (a.tog b))) st
  | 0, _, _, _, h, _, _ => absurd h (Nat.not_lt_zero _)
  | n + 1, .leaf false, b, st, _, h1, h2 => by
    rw [run_succ (d := d_together) h_together rfl]
    simp [bind_ok, bind_exc, fr_ok, fr_exc, frI_ok, frI_exc, tst_ok, tst_exc, of_some, s_ok, s_exc, sb_nx, sb_rt, sb_exc, so_some, g_true, kGet_some, ev_v, ev_k, k2bin_eq, k1bin_eq, ev_bin, k2cmp_eq, k1cmp_eq, ev_cmp, k2ix_eq, k1ix_eq, ev_ix, k2dget_eq, k1dget_eq, ev_dget, k2din_eq, k1din_eq, ev_din, k2dnot_eq, k1dnot_eq, ev_dnot, k2cutTo_eq, k1cutTo_eq, ev_cutTo, k2cutFrom_eq, k1cutFrom_eq, ev_cutFrom, k1and_eq, ev_and, k1or_eq, ev_or, k1not_eq, ev_not, k1neg_eq, ev_neg, k1ite_eq, ev_ite, k4chain_eq, k3chain_eq, k2chain_eq, k1chain_eq, ev_chain, k1tup_eq, ev_tup, k1lst_eq, ev_lst, k1mlst_eq, ev_mlst, k1mdic_eq, ev_mdic, ev_call, k1blt_eq, ev_blt, k2meth_eq, k1meth_eq, ev_meth, k1make_eq, ev_make, k2make_ok, k2make_exc, k1fld_eq, ev_fld, k1isi_eq, ev_isi, k2bm_eq, k1bm_eq, ev_bm, k3cut_eq, k2cuti_eq, k2cut_eq, k1cut_eq, ev_cut, kElt_f, kLst_eq, kLcB_some, kLcT_eq, kLc_eq, ev_lc, kIfF_eq, kLcIfB_some, kLcIfT_eq, kLcIf_eq, ev_lcIf, k2es_eq, k1es_eq, es_nil, es_cons, kSeq_eq, it_seq, kRange_eq, it_range, k3rangeS_eq, k2rangeS_eq, k1rangeS_eq, it_rangeS, kEnum_lst, kEnum_scr, it_enum, kZip_lst, k1zip_eq, it_zip, kSet_eq, ex_set, kNx_eq, kUnp_f, ex_unp, k2par_eq, k1par_eq, ex_par, k2app_eq, k1app_eq, ex_app, kIf_b, ex_ifs, kRt_eq, ex_ret, kEx_eq, ex_ex, ex_raise, ex_pass, kTry_exc, kTry_nx, kTry_rt, ex_try, kFors_eq, ex_fors, ex_whl, k3stx_eq, kFz_f, k2stx_eq, k1stx_eq, ex_setIx, k2stf_eq, k1stf_eq, ex_setFld, bk_nil, bk_cons, env0, leave_rt, leave_exc, cmpS, cmpop, binop, intsOf, g_true, allF, bindT, wipeE, okd_int, FV.toInt?, d_together, encO_okd h1, encO_okd h2, eqv0, eqv1, Own.shares_false_l, Own.tog_false_l]
  | n + 1, .leaf true, .leaf false, st, _, h1, h2 => by
    rw [run_succ (d := d_together) h_together rfl]
    simp [bind_ok, bind_exc, fr_ok, fr_exc, frI_ok, frI_exc, tst_ok, tst_exc, of_some, s_ok, s_exc, sb_nx, sb_rt, sb_exc, so_some, g_true, kGet_some, ev_v, ev_k, k2bin_eq, k1bin_eq, ev_bin, k2cmp_eq, k1cmp_eq, ev_cmp, k2ix_eq, k1ix_eq, ev_ix, k2dget_eq, k1dget_eq, ev_dget, k2din_eq, k1din_eq, ev_din, k2dnot_eq, k1dnot_eq, ev_dnot, k2cutTo_eq, k1cutTo_eq, ev_cutTo, k2cutFrom_eq, k1cutFrom_eq, ev_cutFrom, k1and_eq, ev_and, k1or_eq, ev_or, k1not_eq, ev_not, k1neg_eq, ev_neg, k1ite_eq, ev_ite, k4chain_eq, k3chain_eq, k2chain_eq, k1chain_eq, ev_chain, k1tup_eq, ev_tup, k1lst_eq, ev_lst, k1mlst_eq, ev_mlst, k1mdic_eq, ev_mdic, ev_call, k1blt_eq, ev_blt, k2meth_eq, k1meth_eq, ev_meth, k1make_eq, ev_make, k2make_ok, k2make_exc, k1fld_eq, ev_fld, k1isi_eq, ev_isi, k2bm_eq, k1bm_eq, ev_bm, k3cut_eq, k2cuti_eq, k2cut_eq, k1cut_eq, ev_cut, kElt_f, kLst_eq, kLcB_some, kLcT_eq, kLc_eq, ev_lc, kIfF_eq, kLcIfB_some, kLcIfT_eq, kLcIf_eq, ev_lcIf, k2es_eq, k1es_eq, es_nil, es_cons, kSeq_eq, it_seq, kRange_eq, it_range, k3rangeS_eq, k2rangeS_eq, k1rangeS_eq, it_rangeS, kEnum_lst, kEnum_scr, it_enum, kZip_lst, k1zip_eq, it_zip, kSet_eq, ex_set, kNx_eq, kUnp_f, ex_unp, k2par_eq, k1par_eq, ex_par, k2app_eq, k1app_eq, ex_app, kIf_b, ex_ifs, kRt_eq, ex_ret, kEx_eq, ex_ex, ex_raise, ex_pass, kTry_exc, kTry_nx, kTry_rt, ex_try, kFors_eq, ex_fors, ex_whl, k3stx_eq, kFz_f, k2stx_eq, k1stx_eq, ex_setIx, k2stf_eq, k1stf_eq, ex_setFld, bk_nil, bk_cons, env0, leave_rt, leave_exc, cmpS, cmpop, binop, intsOf, g_true, allF, bindT, wipeE, okd_int, FV.toInt?, d_together, encO_okd h1, encO_okd h2, eqv0, eqv1, Own.shares, Own.tog]
  | n + 1, .leaf true, .leaf true, st, _, h1, h2 => by
    rw [run_succ (d := d_together) h_together rfl]
    simp [bind_ok, bind_exc, fr_ok, fr_exc, frI_ok, frI_exc, tst_ok, tst_exc, of_some, s_ok, s_exc, sb_nx, sb_rt, sb_exc, so_some, g_true, kGet_some, ev_v, ev_k, k2bin_eq, k1bin_eq, ev_bin, k2cmp_eq, k1cmp_eq, ev_cmp, k2ix_eq, k1ix_eq, ev_ix, k2dget_eq, k1dget_eq, ev_dget, k2din_eq, k1din_eq, ev_din, k2dnot_eq, k1dnot_eq, ev_dnot, k2cutTo_eq, k1cutTo_eq, ev_cutTo, k2cutFrom_eq, k1cutFrom_eq, ev_cutFrom, k1and_eq, ev_and, k1or_eq, ev_or, k1not_eq, ev_not, k1neg_eq, ev_neg, k1ite_eq, ev_ite, k4chain_eq, k3chain_eq, k2chain_eq, k1chain_eq, ev_chain, k1tup_eq, ev_tup, k1lst_eq, ev_lst, k1mlst_eq, ev_mlst, k1mdic_eq, ev_mdic, ev_call, k1blt_eq, ev_blt, k2meth_eq, k1meth_eq, ev_meth, k1make_eq, ev_make, k2make_ok, k2make_exc, k1fld_eq, ev_fld, k1isi_eq, ev_isi, k2bm_eq, k1bm_eq, ev_bm, k3cut_eq, k2cuti_eq, k2cut_eq, k1cut_eq, ev_cut, kElt_f, kLst_eq, kLcB_some, kLcT_eq, kLc_eq, ev_lc, kIfF_eq, kLcIfB_some, kLcIfT_eq, kLcIf_eq, ev_lcIf, k2es_eq, k1es_eq, es_nil, es_cons, kSeq_eq, it_seq, kRange_eq, it_range, k3rangeS_eq, k2rangeS_eq, k1rangeS_eq, it_rangeS, kEnum_lst, kEnum_scr, it_enum, kZip_lst, k1zip_eq, it_zip, kSet_eq, ex_set, kNx_eq, kUnp_f, ex_unp, k2par_eq, k1par_eq, ex_par, k2app_eq, k1app_eq, ex_app, kIf_b, ex_ifs, kRt_eq, ex_ret, kEx_eq, ex_ex, ex_raise, ex_pass, kTry_exc, kTry_nx, kTry_rt, ex_try, kFors_eq, ex_fors, ex_whl, k3stx_eq, kFz_f, k2stx_eq, k1stx_eq, ex_setIx, k2stf_eq, k1stf_eq, ex_setFld, bk_nil, bk_cons, env0, leave_rt, leave_exc, cmpS, cmpop, binop, intsOf, g_true, allF, bindT, wipeE, okd_int, FV.toInt?, d_together, encO_okd h1, encO_okd h2, eqv0, eqv1, Own.shares]
  | n + 1, .leaf true, .node a b, st, _, h1, h2 => by
    rw [run_succ (d := d_together) h_together rfl]
    simp [bind_ok, bind_exc, fr_ok, fr_exc, frI_ok, frI_exc, tst_ok, tst_exc, of_some, s_ok, s_exc, sb_nx, sb_rt, sb_exc, so_some, g_true, kGet_some, ev_v, ev_k, k2bin_eq, k1bin_eq, ev_bin, k2cmp_eq, k1cmp_eq, ev_cmp, k2ix_eq, k1ix_eq, ev_ix, k2dget_eq, k1dget_eq, ev_dget, k2din_eq, k1din_eq, ev_din, k2dnot_eq, k1dnot_eq, ev_dnot, k2cutTo_eq, k1cutTo_eq, ev_cutTo, k2cutFrom_eq, k1cutFrom_eq, ev_cutFrom, k1and_eq, ev_and, k1or_eq, ev_or, k1not_eq, ev_not, k1neg_eq, ev_neg, k1ite_eq, ev_ite, k4chain_eq, k3chain_eq, k2chain_eq, k1chain_eq, ev_chain, k1tup_eq, ev_tup, k1lst_eq, ev_lst, k1mlst_eq, ev_mlst, k1mdic_eq, ev_mdic, ev_call, k1blt_eq, ev_blt, k2meth_eq, k1meth_eq, ev_meth, k1make_eq, ev_make, k2make_ok, k2make_exc, k1fld_eq, ev_fld, k1isi_eq, ev_isi, k2bm_eq, k1bm_eq, ev_bm, k3cut_eq, k2cuti_eq, k2cut_eq, k1cut_eq, ev_cut, kElt_f, kLst_eq, kLcB_some, kLcT_eq, kLc_eq, ev_lc, kIfF_eq, kLcIfB_some, kLcIfT_eq, kLcIf_eq, ev_lcIf, k2es_eq, k1es_eq, es_nil, es_cons, kSeq_eq, it_seq, kRange_eq, it_range, k3rangeS_eq, k2rangeS_eq, k1rangeS_eq, it_rangeS, kEnum_lst, kEnum_scr, it_enum, kZip_lst, k1zip_eq, it_zip, kSet_eq, ex_set, kNx_eq, kUnp_f, ex_unp, k2par_eq, k1par_eq, ex_par, k2app_eq, k1app_eq, ex_app, kIf_b, ex_ifs, kRt_eq, ex_ret, kEx_eq, ex_ex, ex_raise, ex_pass, kTry_exc, kTry_nx, kTry_rt, ex_try, kFors_eq, ex_fors, ex_whl, k3stx_eq, kFz_f, k2stx_eq, k1stx_eq, ex_setIx, k2stf_eq, k1stf_eq, ex_setFld, bk_nil, bk_cons, env0, leave_rt, leave_exc, cmpS, cmpop, binop, intsOf, g_true, allF, bindT, wipeE, okd_int, FV.toInt?, d_together, encO_okd h1, encO_okd h2, eqv0, eqv1, Own.shares]
  | n + 1, .node a b, .leaf false, st, _, h1, h2 => by
    rw [run_succ (d := d_together) h_together rfl]
    simp [bind_ok, bind_exc, fr_ok, fr_exc, frI_ok, frI_exc, tst_ok, tst_exc, of_some, s_ok, s_exc, sb_nx, sb_rt, sb_exc, so_some, g_true, kGet_some, ev_v, ev_k, k2bin_eq, k1bin_eq, ev_bin, k2cmp_eq, k1cmp_eq, ev_cmp, k2ix_eq, k1ix_eq, ev_ix, k2dget_eq, k1dget_eq, ev_dget, k2din_eq, k1din_eq, ev_din, k2dnot_eq, k1dnot_eq, ev_dnot, k2cutTo_eq, k1cutTo_eq, ev_cutTo, k2cutFrom_eq, k1cutFrom_eq, ev_cutFrom, k1and_eq, ev_and, k1or_eq, ev_or, k1not_eq, ev_not, k1neg_eq, ev_neg, k1ite_eq, ev_ite, k4chain_eq, k3chain_eq, k2chain_eq, k1chain_eq, ev_chain, k1tup_eq, ev_tup, k1lst_eq, ev_lst, k1mlst_eq, ev_mlst, k1mdic_eq, ev_mdic, ev_call, k1blt_eq, ev_blt, k2meth_eq, k1meth_eq, ev_meth, k1make_eq, ev_make, k2make_ok, k2make_exc, k1fld_eq, ev_fld, k1isi_eq, ev_isi, k2bm_eq, k1bm_eq, ev_bm, k3cut_eq, k2cuti_eq, k2cut_eq, k1cut_eq, ev_cut, kElt_f, kLst_eq, kLcB_some, kLcT_eq, kLc_eq, ev_lc, kIfF_eq, kLcIfB_some, kLcIfT_eq, kLcIf_eq, ev_lcIf, k2es_eq, k1es_eq, es_nil, es_cons, kSeq_eq, it_seq, kRange_eq, it_range, k3rangeS_eq, k2rangeS_eq, k1rangeS_eq, it_rangeS, kEnum_lst, kEnum_scr, it_enum, kZip_lst, k1zip_eq, it_zip, kSet_eq, ex_set, kNx_eq, kUnp_f, ex_unp, k2par_eq, k1par_eq, ex_par, k2app_eq, k1app_eq, ex_app, kIf_b, ex_ifs, kRt_eq, ex_ret, kEx_eq, ex_ex, ex_raise, ex_pass, kTry_exc, kTry_nx, kTry_rt, ex_try, kFors_eq, ex_fors, ex_whl, k3stx_eq, kFz_f, k2stx_eq, k1stx_eq, ex_setIx, k2stf_eq, k1stf_eq, ex_setFld, bk_nil, bk_cons, env0, leave_rt, leave_exc, cmpS, cmpop, binop, intsOf, g_true, allF, bindT, wipeE, okd_int, FV.toInt?, d_together, encO_okd h1, encO_okd h2, eqv0, eqv1, Own.shares, Own.tog]
  | n + 1, .node a b, .leaf true, st, _, h1, h2 => by
    rw [run_succ (d := d_together) h_together rfl]
    simp [bind_ok, bind_exc, fr_ok, fr_exc, frI_ok, frI_exc, tst_ok, tst_exc, of_some, s_ok, s_exc, sb_nx, sb_rt, sb_exc, so_some, g_true, kGet_some, ev_v, ev_k, k2bin_eq, k1bin_eq, ev_bin, k2cmp_eq, k1cmp_eq, ev_cmp, k2ix_eq, k1ix_eq, ev_ix, k2dget_eq, k1dget_eq, ev_dget, k2din_eq, k1din_eq, ev_din, k2dnot_eq, k1dnot_eq, ev_dnot, k2cutTo_eq, k1cutTo_eq, ev_cutTo, k2cutFrom_eq, k1cutFrom_eq, ev_cutFrom, k1and_eq, ev_and, k1or_eq, ev_or, k1not_eq, ev_not, k1neg_eq, ev_neg, k1ite_eq, ev_ite, k4chain_eq, k3chain_eq, k2chain_eq, k1chain_eq, ev_chain, k1tup_eq, ev_tup, k1lst_eq, ev_lst, k1mlst_eq, ev_mlst, k1mdic_eq, ev_mdic, ev_call, k1blt_eq, ev_blt, k2meth_eq, k1meth_eq, ev_meth, k1make_eq, ev_make, k2make_ok, k2make_exc, k1fld_eq, ev_fld, k1isi_eq, ev_isi, k2bm_eq, k1bm_eq, ev_bm, k3cut_eq, k2cuti_eq, k2cut_eq, k1cut_eq, ev_cut, kElt_f, kLst_eq, kLcB_some, kLcT_eq, kLc_eq, ev_lc, kIfF_eq, kLcIfB_some, kLcIfT_eq, kLcIf_eq, ev_lcIf, k2es_eq, k1es_eq, es_nil, es_cons, kSeq_eq, it_seq, kRange_eq, it_range, k3rangeS_eq, k2rangeS_eq, k1rangeS_eq, it_rangeS, kEnum_lst, kEnum_scr, it_enum, kZip_lst, k1zip_eq, it_zip, kSet_eq, ex_set, kNx_eq, kUnp_f, ex_unp, k2par_eq, k1par_eq, ex_par, k2app_eq, k1app_eq, ex_app, kIf_b, ex_ifs, kRt_eq, ex_ret, kEx_eq, ex_ex, ex_raise, ex_pass, kTry_exc, kTry_nx, kTry_rt, ex_try, kFors_eq, ex_fors, ex_whl, k3stx_eq, kFz_f, k2stx_eq, k1stx_eq, ex_setIx, k2stf_eq, k1stf_eq, ex_setFld, bk_nil, bk_cons, env0, leave_rt, leave_exc, cmpS, cmpop, binop, intsOf, g_true, allF, bindT, wipeE, okd_int, FV.toInt?, d_together, encO_okd h1, encO_okd h2, eqv0, eqv1, Own.shares]
  | n + 1, .node l r, .node l' r', st, h, h1, h2 => by
    have ok1 := encO_okd h1
    have ok2 := encO_okd h2
    have e0 := eqv0 (.node l r)
    have e1 := eqv1 (.node l r)
    have e0' := eqv0 (.node l' r')
    have e1' := eqv1 (.node l' r')
    rw [encO_node] at ok1 ok2 e0 e1 e0' e1'
    simp only [Own.depth] at h h1 h2
    have i1 := together_ok h_together h_paired W n l l' st (by omega) (by omega) (by omega)
    have i2 := together_ok h_together h_paired W n r r' st (by omega) (by omega) (by omega)
    have d1 := Own.tog_depth l l'
    have d2 := Own.tog_depth r r'
    obtain ⟨m, rfl⟩ : ∃ m, n = m + 1 := ⟨n - 1, by omega⟩
    have i3 := paired_ok (sub := sub) h_paired W m (l.tog l') (r.tog r') st (by omega) (by omega)
    rw [run_succ (d := d_together) h_together rfl]
    cases c1 : l.shares l' with
    | true =>
      rw [c1, if_pos rfl] at i1
      simp [bind_ok, bind_exc, fr_ok, fr_exc, frI_ok, frI_exc, tst_ok, tst_exc, of_some, s_ok, s_exc, sb_nx, sb_rt, sb_exc, so_some, g_true, kGet_some, ev_v, ev_k, k2bin_eq, k1bin_eq, ev_bin, k2cmp_eq, k1cmp_eq, ev_cmp, k2ix_eq, k1ix_eq, ev_ix, k2dget_eq, k1dget_eq, ev_dget, k2din_eq, k1din_eq, ev_din, k2dnot_eq, k1dnot_eq, ev_dnot, k2cutTo_eq, k1cutTo_eq, ev_cutTo, k2cutFrom_eq, k1cutFrom_eq, ev_cutFrom, k1and_eq, ev_and, k1or_eq, ev_or, k1not_eq, ev_not, k1neg_eq, ev_neg, k1ite_eq, ev_ite, k4chain_eq, k3chain_eq, k2chain_eq, k1chain_eq, ev_chain, k1tup_eq, ev_tup, k1lst_eq, ev_lst, k1mlst_eq, ev_mlst, k1mdic_eq, ev_mdic, ev_call, k1blt_eq, ev_blt, k2meth_eq, k1meth_eq, ev_meth, k1make_eq, ev_make, k2make_ok, k2make_exc, k1fld_eq, ev_fld, k1isi_eq, ev_isi, k2bm_eq, k1bm_eq, ev_bm, k3cut_eq, k2cuti_eq, k2cut_eq, k1cut_eq, ev_cut, kElt_f, kLst_eq, kLcB_some, kLcT_eq, kLc_eq, ev_lc, kIfF_eq, kLcIfB_some, kLcIfT_eq, kLcIf_eq, ev_lcIf, k2es_eq, k1es_eq, es_nil, es_cons, kSeq_eq, it_seq, kRange_eq, it_range, k3rangeS_eq, k2rangeS_eq, k1rangeS_eq, it_rangeS, kEnum_lst, kEnum_scr, it_enum, kZip_lst, k1zip_eq, it_zip, kSet_eq, ex_set, kNx_eq, kUnp_f, ex_unp, k2par_eq, k1par_eq, ex_par, k2app_eq, k1app_eq, ex_app, kIf_b, ex_ifs, kRt_eq, ex_ret, kEx_eq, ex_ex, ex_raise, ex_pass, kTry_exc, kTry_nx, kTry_rt, ex_try, kFors_eq, ex_fors, ex_whl, k3stx_eq, kFz_f, k2stx_eq, k1stx_eq, ex_setIx, k2stf_eq, k1stf_eq, ex_setFld, bk_nil, bk_cons, env0, leave_rt, leave_exc, cmpS, cmpop, binop, intsOf, g_true, allF, bindT, wipeE, okd_int, FV.toInt?, d_together, ok1, ok2, e0, e1, e0', e1', encO_node, Own.shares, i1, c1, ixS, atIx]
    | false =>
      rw [c1, if_neg (by decide)] at i1
      cases c2 : r.shares r' with
      | true =>
        rw [c2, if_pos rfl] at i2
        simp [bind_ok, bind_exc, fr_ok, fr_exc, frI_ok, frI_exc, tst_ok, tst_exc, of_some, s_ok, s_exc, sb_nx, sb_rt, sb_exc, so_some, g_true, kGet_some, ev_v, ev_k, k2bin_eq, k1bin_eq, ev_bin, k2cmp_eq, k1cmp_eq, ev_cmp, k2ix_eq, k1ix_eq, ev_ix, k2dget_eq, k1dget_eq, ev_dget, k2din_eq, k1din_eq, ev_din, k2dnot_eq, k1dnot_eq, ev_dnot, k2cutTo_eq, k1cutTo_eq, ev_cutTo, k2cutFrom_eq, k1cutFrom_eq, ev_cutFrom, k1and_eq, ev_and, k1or_eq, ev_or, k1not_eq, ev_not, k1neg_eq, ev_neg, k1ite_eq, ev_ite, k4chain_eq, k3chain_eq, k2chain_eq, k1chain_eq, ev_chain, k1tup_eq, ev_tup, k1lst_eq, ev_lst, k1mlst_eq, ev_mlst, k1mdic_eq, ev_mdic, ev_call, k1blt_eq, ev_blt, k2meth_eq, k1meth_eq, ev_meth, k1make_eq, ev_make, k2make_ok, k2make_exc, k1fld_eq, ev_fld, k1isi_eq, ev_isi, k2bm_eq, k1bm_eq, ev_bm, k3cut_eq, k2cuti_eq, k2cut_eq, k1cut_eq, ev_cut, kElt_f, kLst_eq, kLcB_some, kLcT_eq, kLc_eq, ev_lc, kIfF_eq, kLcIfB_some, kLcIfT_eq, kLcIf_eq, ev_lcIf, k2es_eq, k1es_eq, es_nil, es_cons, kSeq_eq, it_seq, kRange_eq, it_range, k3rangeS_eq, k2rangeS_eq, k1rangeS_eq, it_rangeS, kEnum_lst, kEnum_scr, it_enum, kZip_lst, k1zip_eq, it_zip, kSet_eq, ex_set, kNx_eq, kUnp_f, ex_unp, k2par_eq, k1par_eq, ex_par, k2app_eq, k1app_eq, ex_app, kIf_b, ex_ifs, kRt_eq, ex_ret, kEx_eq, ex_ex, ex_raise, ex_pass, kTry_exc, kTry_nx, kTry_rt, ex_try, kFors_eq, ex_fors, ex_whl, k3stx_eq, kFz_f, k2stx_eq, k1stx_eq, ex_setIx, k2stf_eq, k1stf_eq, ex_setFld, bk_nil, bk_cons, env0, leave_rt, leave_exc, cmpS, cmpop, binop, intsOf, g_true, allF, bindT, wipeE, okd_int, FV.toInt?, d_together, ok1, ok2, e0, e1, e0', e1', encO_node, Own.shares, i1, i2, c1, c2, ixS, atIx]
      | false =>
        rw [c2, if_neg (by decide)] at i2
        simp [bind_ok, bind_exc, fr_ok, fr_exc, frI_ok, frI_exc, tst_ok, tst_exc, of_some, s_ok, s_exc, sb_nx, sb_rt, sb_exc, so_some, g_true, kGet_some, ev_v, ev_k, k2bin_eq, k1bin_eq, ev_bin, k2cmp_eq, k1cmp_eq, ev_cmp, k2ix_eq, k1ix_eq, ev_ix, k2dget_eq, k1dget_eq, ev_dget, k2din_eq, k1din_eq, ev_din, k2dnot_eq, k1dnot_eq, ev_dnot, k2cutTo_eq, k1cutTo_eq, ev_cutTo, k2cutFrom_eq, k1cutFrom_eq, ev_cutFrom, k1and_eq, ev_and, k1or_eq, ev_or, k1not_eq, ev_not, k1neg_eq, ev_neg, k1ite_eq, ev_ite, k4chain_eq, k3chain_eq, k2chain_eq, k1chain_eq, ev_chain, k1tup_eq, ev_tup, k1lst_eq, ev_lst, k1mlst_eq, ev_mlst, k1mdic_eq, ev_mdic, ev_call, k1blt_eq, ev_blt, k2meth_eq, k1meth_eq, ev_meth, k1make_eq, ev_make, k2make_ok, k2make_exc, k1fld_eq, ev_fld, k1isi_eq, ev_isi, k2bm_eq, k1bm_eq, ev_bm, k3cut_eq, k2cuti_eq, k2cut_eq, k1cut_eq, ev_cut, kElt_f, kLst_eq, kLcB_some, kLcT_eq, kLc_eq, ev_lc, kIfF_eq, kLcIfB_some, kLcIfT_eq, kLcIf_eq, ev_lcIf, k2es_eq, k1es_eq, es_nil, es_cons, kSeq_eq, it_seq, kRange_eq, it_range, k3rangeS_eq, k2rangeS_eq, k1rangeS_eq, it_rangeS, kEnum_lst, kEnum_scr, it_enum, kZip_lst, k1zip_eq, it_zip, kSet_eq, ex_set, kNx_eq, kUnp_f, ex_unp, k2par_eq, k1par_eq, ex_par, k2app_eq, k1app_eq, ex_app, kIf_b, ex_ifs, kRt_eq, ex_ret, kEx_eq, ex_ex, ex_raise, ex_pass, kTry_exc, kTry_nx, kTry_rt, ex_try, kFors_eq, ex_fors, ex_whl, k3stx_eq, kFz_f, k2stx_eq, k1stx_eq, ex_setIx, k2stf_eq, k1stf_eq, ex_setFld, bk_nil, bk_cons, env0, leave_rt, leave_exc, cmpS, cmpop, binop, intsOf, g_true, allF, bindT, wipeE, okd_int, FV.toInt?, d_together, ok1, ok2, e0, e1, e0', e1', encO_node, Own.shares, Own.tog, i1, i2, i3, c1, c2, ixS, atIx]
theorem allInts_nums : ∀ ns : List Int, allInts (nums ns) = some ns
  | [] => rfl
  | n :: ns => by
    show (allInts (nums ns)).map (n :: ·) = _
    rw [allInts_nums ns]
    rfl
theorem nums_append (a b : List Int) : nums (a ++ b) = nums a ++ nums b := List.map_append
theorem nums_length (a : List Int) : (nums a).length = a.length := List.length_map ..
theorem bit_enc {n : Int} (h : n = 0 ∨ n = 1) : FV.int n = encO (.leaf (decide (n = 1))) := by
  rcases h with rfl | rfl <;> rfl
theorem cmul_r {i j : Int} (h1 : -(2 ^ 64) < j) (h2 : j < 2 ^ 64) : cmul i j = true := by
  unfold cmul
  rw [decide_eq_true (show -(2 ^ 64) < j ∧ j < 2 ^ 64 from ⟨h1, h2⟩), Bool.or_true]
theorem mixed_ok (h__law_mixed : P 6 = some d__law_mixed) (W n : Nat) (c k : Int) (st : Store) (h1 : 0 ≤ k) (h2 : k < 128) : run sub W P (n + 1) 6 [.f (.int c), .f (.int k)] st = .ok (.f (.int (mixed c k))) st := by
  rw [run_succ (d := d__law_mixed) h__law_mixed rfl]
  have g1 : ∀ x, cmul x 48271 = true := fun x => cmul_r (by decide) (by decide)
  have g2 : cmul 5 k = true := cmul_r (by omega) (by omega)
  have g3 : cmul 1033 k = true := cmul_r (by omega) (by omega)
  have g4 : cmul (1033 * k) k = true := cmul_r (by omega) (by omega)
  have q1 := Int.mul_nonneg (show (0 : Int) ≤ 1033 * k by omega) h1
  have q2 : 1033 * k * k ≤ 1033 * 128 * 128 := Int.mul_le_mul (by omega) (by omega) h1 (by decide)
  have g5 : ∀ x, cmul x (16807 + 1033 * k * k) = true := fun x => cmul_r (by omega) (by omega)
  have g0 : cpow 10 60 = true := by decide
  simp [bind_ok, bind_exc, fr_ok, fr_exc, frI_ok, frI_exc, tst_ok, tst_exc, of_some, s_ok, s_exc, sb_nx, sb_rt, sb_exc, so_some, g_true, kGet_some, ev_v, ev_k, k2bin_eq, k1bin_eq, ev_bin, k2cmp_eq, k1cmp_eq, ev_cmp, k2ix_eq, k1ix_eq, ev_ix, k2dget_eq, k1dget_eq, ev_dget, k2din_eq, k1din_eq, ev_din, k2dnot_eq, k1dnot_eq, ev_dnot, k2cutTo_eq, k1cutTo_eq, ev_cutTo, k2cutFrom_eq, k1cutFrom_eq, ev_cutFrom, k1and_eq, ev_and, k1or_eq, ev_or, k1not_eq, ev_not, k1neg_eq, ev_neg, k1ite_eq, ev_ite, k4chain_eq, k3chain_eq, k2chain_eq, k1chain_eq, ev_chain, k1tup_eq, ev_tup, k1lst_eq, ev_lst, k1mlst_eq, ev_mlst, k1mdic_eq, ev_mdic, ev_call, k1blt_eq, ev_blt, k2meth_eq, k1meth_eq, ev_meth, k1make_eq, ev_make, k2make_ok, k2make_exc, k1fld_eq, ev_fld, k1isi_eq, ev_isi, k2bm_eq, k1bm_eq, ev_bm, k3cut_eq, k2cuti_eq, k2cut_eq, k1cut_eq, ev_cut, kElt_f, kLst_eq, kLcB_some, kLcT_eq, kLc_eq, ev_lc, kIfF_eq, kLcIfB_some, kLcIfT_eq, kLcIf_eq, ev_lcIf, k2es_eq, k1es_eq, es_nil, es_cons, kSeq_eq, it_seq, kRange_eq, it_range, k3rangeS_eq, k2rangeS_eq, k1rangeS_eq, it_rangeS, kEnum_lst, kEnum_scr, it_enum, kZip_lst, k1zip_eq, it_zip, kSet_eq, ex_set, kNx_eq, kUnp_f, ex_unp, k2par_eq, k1par_eq, ex_par, k2app_eq, k1app_eq, ex_app, kIf_b, ex_ifs, kRt_eq, ex_ret, kEx_eq, ex_ex, ex_raise, ex_pass, kTry_exc, kTry_nx, kTry_rt, ex_try, kFors_eq, ex_fors, ex_whl, k3stx_eq, kFz_f, k2stx_eq, k1stx_eq, ex_setIx, k2stf_eq, k1stf_eq, ex_setFld, bk_nil, bk_cons, env0, leave_rt, leave_exc, cmpS, cmpop, binop, intsOf, g_true, allF, bindT, wipeE, okd_int, FV.toInt?, d__law_mixed, g0, g1, g2, g3, g4, g5, mixed]
theorem own_ok (h__law_own : P 8 = some d__law_own) (W : Nat) : ∀ (n d : Nat) (m : Int) (st : Store), d < n → run sub W P n 8 [.f (.int m), .f (.int d)] st = .ok (.f (encO (genOwn d m))) st
  | 0, _, _, _, h => absurd h (Nat.not_lt_zero _)
  | n + 1, 0, m, st, _ => by
    rw [run_succ (d := d__law_own) h__law_own rfl]
    have hb : m % 2 = 0 ∨ m % 2 = 1 := by omega
    have e := bit_enc hb
    simp [bind_ok, bind_exc, fr_ok, fr_exc, frI_ok, frI_exc, tst_ok, tst_exc, of_some, s_ok, s_exc, sb_nx, sb_rt, sb_exc, so_some, g_true, kGet_some, ev_v, ev_k, k2bin_eq, k1bin_eq, ev_bin, k2cmp_eq, k1cmp_eq, ev_cmp, k2ix_eq, k1ix_eq, ev_ix, k2dget_eq, k1dget_eq, ev_dget, k2din_eq, k1din_eq, ev_din, k2dnot_eq, k1dnot_eq, ev_dnot, k2cutTo_eq, k1cutTo_eq, ev_cutTo, k2cutFrom_eq, k1cutFrom_eq, ev_cutFrom, k1and_eq, ev_and, k1or_eq, ev_or, k1not_eq, ev_not, k1neg_eq, ev_neg, k1ite_eq, ev_ite, k4chain_eq, k3chain_eq, k2chain_eq, k1chain_eq, ev_chain, k1tup_eq, ev_tup, k1lst_eq, ev_lst, k1mlst_eq, ev_mlst, k1mdic_eq, ev_mdic, ev_call, k1blt_eq, ev_blt, k2meth_eq, k1meth_eq, ev_meth, k1make_eq, ev_make, k2make_ok, k2make_exc, k1fld_eq, ev_fld, k1isi_eq, ev_isi, k2bm_eq, k1bm_eq, ev_bm, k3cut_eq, k2cuti_eq, k2cut_eq, k1cut_eq, ev_cut, kElt_f, kLst_eq, kLcB_some, kLcT_eq, kLc_eq, ev_lc, kIfF_eq, kLcIfB_some, kLcIfT_eq, kLcIf_eq, ev_lcIf, k2es_eq, k1es_eq, es_nil, es_cons, kSeq_eq, it_seq, kRange_eq, it_range, k3rangeS_eq, k2rangeS_eq, k1rangeS_eq, it_rangeS, kEnum_lst, kEnum_scr, it_enum, kZip_lst, k1zip_eq, it_zip, kSet_eq, ex_set, kNx_eq, kUnp_f, ex_unp, k2par_eq, k1par_eq, ex_par, k2app_eq, k1app_eq, ex_app, kIf_b, ex_ifs, kRt_eq, ex_ret, kEx_eq, ex_ex, ex_raise, ex_pass, kTry_exc, kTry_nx, kTry_rt, ex_try, kFors_eq, ex_fors, ex_whl, k3stx_eq, kFz_f, k2stx_eq, k1stx_eq, ex_setIx, k2stf_eq, k1stf_eq, ex_setFld, bk_nil, bk_cons, env0, leave_rt, leave_exc, cmpS, cmpop, binop, intsOf, g_true, allF, bindT, wipeE, okd_int, FV.toInt?, d__law_own, genOwn, FV.eqv, e]
  | n + 1, d + 1, m, st, h => by
    rw [run_succ (d := d__law_own) h__law_own rfl]
    have hb : m % 2 = 0 ∨ m % 2 = 1 := by omega
    have e := bit_enc hb
    have g1 : ∀ x, cmul x 48271 = true := fun x => cmul_r (by decide) (by decide)
    have g2 : ∀ x, cmul x 16807 = true := fun x => cmul_r (by decide) (by decide)
    have e0 : ¬ ((d : Int) + 1 = 0) := by omega
    have e1 : (d : Int) + 1 - 1 = d := by omega
    have i1 := own_ok h__law_own W n d (m / 5 * 16807 % 1000003) st (by omega)
    have i2 := own_ok h__law_own W n d (m / 5 * 48271 % 1000033) st (by omega)
    by_cases c : m % 5 < 2
    · simp [bind_ok, bind_exc, fr_ok, fr_exc, frI_ok, frI_exc, tst_ok, tst_exc, of_some, s_ok, s_exc, sb_nx, sb_rt, sb_exc, so_some, g_true, kGet_some, ev_v, ev_k, k2bin_eq, k1bin_eq, ev_bin, k2cmp_eq, k1cmp_eq, ev_cmp, k2ix_eq, k1ix_eq, ev_ix, k2dget_eq, k1dget_eq, ev_dget, k2din_eq, k1din_eq, ev_din, k2dnot_eq, k1dnot_eq, ev_dnot, k2cutTo_eq, k1cutTo_eq, ev_cutTo, k2cutFrom_eq, k1cutFrom_eq, ev_cutFrom, k1and_eq, ev_and, k1or_eq, ev_or, k1not_eq, ev_not, k1neg_eq, ev_neg, k1ite_eq, ev_ite, k4chain_eq, k3chain_eq, k2chain_eq, k1chain_eq, ev_chain, k1tup_eq, ev_tup, k1lst_eq, ev_lst, k1mlst_eq, ev_mlst, k1mdic_eq, ev_mdic, ev_call, k1blt_eq, ev_blt, k2meth_eq, k1meth_eq, ev_meth, k1make_eq, ev_make, k2make_ok, k2make_exc, k1fld_eq, ev_fld, k1isi_eq, ev_isi, k2bm_eq, k1bm_eq, ev_bm, k3cut_eq, k2cuti_eq, k2cut_eq, k1cut_eq, ev_cut, kElt_f, kLst_eq, kLcB_some, kLcT_eq, kLc_eq, ev_lc, kIfF_eq, kLcIfB_some, kLcIfT_eq, kLcIf_eq, ev_lcIf, k2es_eq, k1es_eq, es_nil, es_cons, kSeq_eq, it_seq, kRange_eq, it_range, k3rangeS_eq, k2rangeS_eq, k1rangeS_eq, it_rangeS, kEnum_lst, kEnum_scr, it_enum, kZip_lst, k1zip_eq, it_zip, kSet_eq, ex_set, kNx_eq, kUnp_f, ex_unp, k2par_eq, k1par_eq, ex_par, k2app_eq, k1app_eq, ex_app, kIf_b, ex_ifs, kRt_eq, ex_ret, kEx_eq, ex_ex, ex_raise, ex_pass, kTry_exc, kTry_nx, kTry_rt, ex_try, kFors_eq, ex_fors, ex_whl, k3stx_eq, kFz_f, k2stx_eq, k1stx_eq, ex_setIx, k2stf_eq, k1stf_eq, ex_setFld, bk_nil, bk_cons, env0, leave_rt, leave_exc, cmpS, cmpop, binop, intsOf, g_true, allF, bindT, wipeE, okd_int, FV.toInt?, d__law_own, genOwn, FV.eqv, e, c, e0, g1, g2, e1]
    · simp [bind_ok, bind_exc, fr_ok, fr_exc, frI_ok, frI_exc, tst_ok, tst_exc, of_some, s_ok, s_exc, sb_nx, sb_rt, sb_exc, so_some, g_true, kGet_some, ev_v, ev_k, k2bin_eq, k1bin_eq, ev_bin, k2cmp_eq, k1cmp_eq, ev_cmp, k2ix_eq, k1ix_eq, ev_ix, k2dget_eq, k1dget_eq, ev_dget, k2din_eq, k1din_eq, ev_din, k2dnot_eq, k1dnot_eq, ev_dnot, k2cutTo_eq, k1cutTo_eq, ev_cutTo, k2cutFrom_eq, k1cutFrom_eq, ev_cutFrom, k1and_eq, ev_and, k1or_eq, ev_or, k1not_eq, ev_not, k1neg_eq, ev_neg, k1ite_eq, ev_ite, k4chain_eq, k3chain_eq, k2chain_eq, k1chain_eq, ev_chain, k1tup_eq, ev_tup, k1lst_eq, ev_lst, k1mlst_eq, ev_mlst, k1mdic_eq, ev_mdic, ev_call, k1blt_eq, ev_blt, k2meth_eq, k1meth_eq, ev_meth, k1make_eq, ev_make, k2make_ok, k2make_exc, k1fld_eq, ev_fld, k1isi_eq, ev_isi, k2bm_eq, k1bm_eq, ev_bm, k3cut_eq, k2cuti_eq, k2cut_eq, k1cut_eq, ev_cut, kElt_f, kLst_eq, kLcB_some, kLcT_eq, kLc_eq, ev_lc, kIfF_eq, kLcIfB_some, kLcIfT_eq, kLcIf_eq, ev_lcIf, k2es_eq, k1es_eq, es_nil, es_cons, kSeq_eq, it_seq, kRange_eq, it_range, k3rangeS_eq, k2rangeS_eq, k1rangeS_eq, it_rangeS, kEnum_lst, kEnum_scr, it_enum, kZip_lst, k1zip_eq, it_zip, kSet_eq, ex_set, kNx_eq, kUnp_f, ex_unp, k2par_eq, k1par_eq, ex_par, k2app_eq, k1app_eq, ex_app, kIf_b, ex_ifs, kRt_eq, ex_ret, kEx_eq, ex_ex, ex_raise, ex_pass, kTry_exc, kTry_nx, kTry_rt, ex_try, kFors_eq, ex_fors, ex_whl, k3stx_eq, kFz_f, k2stx_eq, k1stx_eq, ex_setIx, k2stf_eq, k1stf_eq, ex_setFld, bk_nil, bk_cons, env0, leave_rt, leave_exc, cmpS, cmpop, binop, intsOf, g_true, allF, bindT, wipeE, okd_int, FV.toInt?, d__law_own, genOwn, FV.eqv, c, e0, g1, g2, e1, i1, i2, encO_node]
theorem places_ok (h__law_places : P 9 = some d__law_places) (W : Nat) : ∀ (n d : Nat) (o : Own) (st : Store), d < n → o.depth ≤ d → d ≤ 10 → run sub W P n 9 [.f (encO o), .f (.int d)] st = .ok (.f (.lst (nums (places d o)))) st
  | 0, _, _, _, h, _, _ => absurd h (Nat.not_lt_zero _)
  | n + 1, 0, .leaf b, st, _, _, _ => by
    rw [run_succ (d := d__law_places) h__law_places rfl]
    simp [bind_ok, bind_exc, fr_ok, fr_exc, frI_ok, frI_exc, tst_ok, tst_exc, of_some, s_ok, s_exc, sb_nx, sb_rt, sb_exc, so_some, g_true, kGet_some, ev_v, ev_k, k2bin_eq, k1bin_eq, ev_bin, k2cmp_eq, k1cmp_eq, ev_cmp, k2ix_eq, k1ix_eq, ev_ix, k2dget_eq, k1dget_eq, ev_dget, k2din_eq, k1din_eq, ev_din, k2dnot_eq, k1dnot_eq, ev_dnot, k2cutTo_eq, k1cutTo_eq, ev_cutTo, k2cutFrom_eq, k1cutFrom_eq, ev_cutFrom, k1and_eq, ev_and, k1or_eq, ev_or, k1not_eq, ev_not, k1neg_eq, ev_neg, k1ite_eq, ev_ite, k4chain_eq, k3chain_eq, k2chain_eq, k1chain_eq, ev_chain, k1tup_eq, ev_tup, k1lst_eq, ev_lst, k1mlst_eq, ev_mlst, k1mdic_eq, ev_mdic, ev_call, k1blt_eq, ev_blt, k2meth_eq, k1meth_eq, ev_meth, k1make_eq, ev_make, k2make_ok, k2make_exc, k1fld_eq, ev_fld, k1isi_eq, ev_isi, k2bm_eq, k1bm_eq, ev_bm, k3cut_eq, k2cuti_eq, k2cut_eq, k1cut_eq, ev_cut, kElt_f, kLst_eq, kLcB_some, kLcT_eq, kLc_eq, ev_lc, kIfF_eq, kLcIfB_some, kLcIfT_eq, kLcIf_eq, ev_lcIf, k2es_eq, k1es_eq, es_nil, es_cons, kSeq_eq, it_seq, kRange_eq, it_range, k3rangeS_eq, k2rangeS_eq, k1rangeS_eq, it_rangeS, kEnum_lst, kEnum_scr, it_enum, kZip_lst, k1zip_eq, it_zip, kSet_eq, ex_set, kNx_eq, kUnp_f, ex_unp, k2par_eq, k1par_eq, ex_par, k2app_eq, k1app_eq, ex_app, kIf_b, ex_ifs, kRt_eq, ex_ret, kEx_eq, ex_ex, ex_raise, ex_pass, kTry_exc, kTry_nx, kTry_rt, ex_try, kFors_eq, ex_fors, ex_whl, k3stx_eq, kFz_f, k2stx_eq, k1stx_eq, ex_setIx, k2stf_eq, k1stf_eq, ex_setFld, bk_nil, bk_cons, env0, leave_rt, leave_exc, cmpS, cmpop, binop, intsOf, g_true, allF, bindT, wipeE, okd_int, FV.toInt?, d__law_places, FV.eqv, encO_leaf, places, nums]
  | n + 1, 0, .node _ _, st, _, h, _ => by simp [Own.depth] at h
  | n + 1, d + 1, .leaf b, st, h, _, h3 => by
    rw [run_succ (d := d__law_places) h__law_places rfl]
    have e0 : ¬ ((d : Int) + 1 = 0) := by omega
    have e1 : (d : Int) + 1 - 1 = d := by omega
    have i1 := places_ok h__law_places W n d (.leaf b) st (by omega) (Nat.zero_le _) (by omega)
    have q := places_length d (.leaf b) (Nat.zero_le _)
    have q2 : 2 ^ d ≤ 2 ^ 10 := Nat.pow_le_pow_right (by decide) (by omega)
    have q3 : 2 ^ d + 2 ^ d ≤ line := by unfold line; omega
    have ok : (encO (.leaf b)).okd = true := encO_okd (by simp [Own.depth])
    have ok2 : (FV.tup [.int 0, .int 1]).okd = true := rfl
    have e2 : ((FV.int 0).eqv (encO (.leaf b)) || (FV.int 1).eqv (encO (.leaf b))) = true := by cases b <;> rfl
    simp [bind_ok, bind_exc, fr_ok, fr_exc, frI_ok, frI_exc, tst_ok, tst_exc, of_some, s_ok, s_exc, sb_nx, sb_rt, sb_exc, so_some, g_true, kGet_some, ev_v, ev_k, k2bin_eq, k1bin_eq, ev_bin, k2cmp_eq, k1cmp_eq, ev_cmp, k2ix_eq, k1ix_eq, ev_ix, k2dget_eq, k1dget_eq, ev_dget, k2din_eq, k1din_eq, ev_din, k2dnot_eq, k1dnot_eq, ev_dnot, k2cutTo_eq, k1cutTo_eq, ev_cutTo, k2cutFrom_eq, k1cutFrom_eq, ev_cutFrom, k1and_eq, ev_and, k1or_eq, ev_or, k1not_eq, ev_not, k1neg_eq, ev_neg, k1ite_eq, ev_ite, k4chain_eq, k3chain_eq, k2chain_eq, k1chain_eq, ev_chain, k1tup_eq, ev_tup, k1lst_eq, ev_lst, k1mlst_eq, ev_mlst, k1mdic_eq, ev_mdic, ev_call, k1blt_eq, ev_blt, k2meth_eq, k1meth_eq, ev_meth, k1make_eq, ev_make, k2make_ok, k2make_exc, k1fld_eq, ev_fld, k1isi_eq, ev_isi, k2bm_eq, k1bm_eq, ev_bm, k3cut_eq, k2cuti_eq, k2cut_eq, k1cut_eq, ev_cut, kElt_f, kLst_eq, kLcB_some, kLcT_eq, kLc_eq, ev_lc, kIfF_eq, kLcIfB_some, kLcIfT_eq, kLcIf_eq, ev_lcIf, k2es_eq, k1es_eq, es_nil, es_cons, kSeq_eq, it_seq, kRange_eq, it_range, k3rangeS_eq, k2rangeS_eq, k1rangeS_eq, it_rangeS, kEnum_lst, kEnum_scr, it_enum, kZip_lst, k1zip_eq, it_zip, kSet_eq, ex_set, kNx_eq, kUnp_f, ex_unp, k2par_eq, k1par_eq, ex_par, k2app_eq, k1app_eq, ex_app, kIf_b, ex_ifs, kRt_eq, ex_ret, kEx_eq, ex_ex, ex_raise, ex_pass, kTry_exc, kTry_nx, kTry_rt, ex_try, kFors_eq, ex_fors, ex_whl, k3stx_eq, kFz_f, k2stx_eq, k1stx_eq, ex_setIx, k2stf_eq, k1stf_eq, ex_setFld, bk_nil, bk_cons, env0, leave_rt, leave_exc, cmpS, cmpop, binop, intsOf, g_true, allF, bindT, wipeE, okd_int, FV.toInt?, d__law_places, FV.eqv, inF, ok, ok2, places, e0, e1, i1, nums_length, nums_append, q, q3]
    simp [FV.eqv] at e2
    simp [bind_ok, bind_exc, fr_ok, fr_exc, frI_ok, frI_exc, tst_ok, tst_exc, of_some, s_ok, s_exc, sb_nx, sb_rt, sb_exc, so_some, g_true, kGet_some, ev_v, ev_k, k2bin_eq, k1bin_eq, ev_bin, k2cmp_eq, k1cmp_eq, ev_cmp, k2ix_eq, k1ix_eq, ev_ix, k2dget_eq, k1dget_eq, ev_dget, k2din_eq, k1din_eq, ev_din, k2dnot_eq, k1dnot_eq, ev_dnot, k2cutTo_eq, k1cutTo_eq, ev_cutTo, k2cutFrom_eq, k1cutFrom_eq, ev_cutFrom, k1and_eq, ev_and, k1or_eq, ev_or, k1not_eq, ev_not, k1neg_eq, ev_neg, k1ite_eq, ev_ite, k4chain_eq, k3chain_eq, k2chain_eq, k1chain_eq, ev_chain, k1tup_eq, ev_tup, k1lst_eq, ev_lst, k1mlst_eq, ev_mlst, k1mdic_eq, ev_mdic, ev_call, k1blt_eq, ev_blt, k2meth_eq, k1meth_eq, ev_meth, k1make_eq, ev_make, k2make_ok, k2make_exc, k1fld_eq, ev_fld, k1isi_eq, ev_isi, k2bm_eq, k1bm_eq, ev_bm, k3cut_eq, k2cuti_eq, k2cut_eq, k1cut_eq, ev_cut, kElt_f, kLst_eq, kLcB_some, kLcT_eq, kLc_eq, ev_lc, kIfF_eq, kLcIfB_some, kLcIfT_eq, kLcIf_eq, ev_lcIf, k2es_eq, k1es_eq, es_nil, es_cons, kSeq_eq, it_seq, kRange_eq, it_range, k3rangeS_eq, k2rangeS_eq, k1rangeS_eq, it_rangeS, kEnum_lst, kEnum_scr, it_enum, kZip_lst, k1zip_eq, it_zip, kSet_eq, ex_set, kNx_eq, kUnp_f, ex_unp, k2par_eq, k1par_eq, ex_par, k2app_eq, k1app_eq, ex_app, kIf_b, ex_ifs, kRt_eq, ex_ret, kEx_eq, ex_ex, ex_raise, ex_pass, kTry_exc, kTry_nx, kTry_rt, ex_try, kFors_eq, ex_fors, ex_whl, k3stx_eq, kFz_f, k2stx_eq, k1stx_eq, ex_setIx, k2stf_eq, k1stf_eq, ex_setFld, bk_nil, bk_cons, env0, leave_rt, leave_exc, cmpS, cmpop, binop, intsOf, g_true, allF, bindT, wipeE, okd_int, FV.toInt?, e2, e1, i1, nums_length, q, q3]
  | n + 1, d + 1, .node l r, st, h, h2, h3 => by
    have h2' := h2
    simp only [Own.depth] at h2
    rw [run_succ (d := d__law_places) h__law_places rfl]
    have e0 : ¬ ((d : Int) + 1 = 0) := by omega
    have e1 : (d : Int) + 1 - 1 = d := by omega
    have i1 := places_ok h__law_places W n d l st (by omega) (by omega) (by omega)
    have i2 := places_ok h__law_places W n d r st (by omega) (by omega) (by omega)
    have p1 := places_length d l (by omega)
    have p2 := places_length d r (by omega)
    have q2 : 2 ^ d ≤ 2 ^ 10 := Nat.pow_le_pow_right (by decide) (by omega)
    have q3 : 2 ^ d + 2 ^ d ≤ line := by unfold line; omega
    have ok : (encO (.node l r)).okd = true := encO_okd (by omega)
    rw [encO_node] at ok ⊢
    have ok2 : (FV.tup [.int 0, .int 1]).okd = true := rfl
    simp [bind_ok, bind_exc, fr_ok, fr_exc, frI_ok, frI_exc, tst_ok, tst_exc, of_some, s_ok, s_exc, sb_nx, sb_rt, sb_exc, so_some, g_true, kGet_some, ev_v, ev_k, k2bin_eq, k1bin_eq, ev_bin, k2cmp_eq, k1cmp_eq, ev_cmp, k2ix_eq, k1ix_eq, ev_ix, k2dget_eq, k1dget_eq, ev_dget, k2din_eq, k1din_eq, ev_din, k2dnot_eq, k1dnot_eq, ev_dnot, k2cutTo_eq, k1cutTo_eq, ev_cutTo, k2cutFrom_eq, k1cutFrom_eq, ev_cutFrom, k1and_eq, ev_and, k1or_eq, ev_or, k1not_eq, ev_not, k1neg_eq, ev_neg, k1ite_eq, ev_ite, k4chain_eq, k3chain_eq, k2chain_eq, k1chain_eq, ev_chain, k1tup_eq, ev_tup, k1lst_eq, ev_lst, k1mlst_eq, ev_mlst, k1mdic_eq, ev_mdic, ev_call, k1blt_eq, ev_blt, k2meth_eq, k1meth_eq, ev_meth, k1make_eq, ev_make, k2make_ok, k2make_exc, k1fld_eq, ev_fld, k1isi_eq, ev_isi, k2bm_eq, k1bm_eq, ev_bm, k3cut_eq, k2cuti_eq, k2cut_eq, k1cut_eq, ev_cut, kElt_f, kLst_eq, kLcB_some, kLcT_eq, kLc_eq, ev_lc, kIfF_eq, kLcIfB_some, kLcIfT_eq, kLcIf_eq, ev_lcIf, k2es_eq, k1es_eq, es_nil, es_cons, kSeq_eq, it_seq, kRange_eq, it_range, k3rangeS_eq, k2rangeS_eq, k1rangeS_eq, it_rangeS, kEnum_lst, kEnum_scr, it_enum, kZip_lst, k1zip_eq, it_zip, kSet_eq, ex_set, kNx_eq, kUnp_f, ex_unp, k2par_eq, k1par_eq, ex_par, k2app_eq, k1app_eq, ex_app, kIf_b, ex_ifs, kRt_eq, ex_ret, kEx_eq, ex_ex, ex_raise, ex_pass, kTry_exc, kTry_nx, kTry_rt, ex_try, kFors_eq, ex_fors, ex_whl, k3stx_eq, kFz_f, k2stx_eq, k1stx_eq, ex_setIx, k2stf_eq, k1stf_eq, ex_setFld, bk_nil, bk_cons, env0, leave_rt, leave_exc, cmpS, cmpop, binop, intsOf, g_true, allF, bindT, wipeE, okd_int, FV.toInt?, d__law_places, FV.eqv, inF, ok, ok2, places, e0, e1, i1, i2, nums_length, nums_append, p1, p2, q3, ixS, atIx]
theorem atIx_zero {α : Type} (x : α) (xs : List α) : atIx (x :: xs) 0 = some x := rfl
theorem nums_take (n : Nat) (a : List Int) : (nums a).take n = nums (a.take n) := by unfold nums; rw [List.map_take]
theorem nums_drop (n : Nat) (a : List Int) : (nums a).drop n = nums (a.drop n) := by unfold nums; rw [List.map_drop]
theorem cutTo_nums (a : List Int) (i : Int) (h : 0 ≤ i) : cutF (.lst (nums a)) none (some i) = some (.lst (nums (a.take i.toNat))) := by
  unfold cutF
  rw [if_pos (by simp [h])]
  simp [nums_take]
theorem cutFrom_nums (a : List Int) (i : Int) (h : 0 ≤ i) : cutF (.lst (nums a)) (some i) none = some (.lst (nums (a.drop i.toNat))) := by
  unfold cutF
  rw [if_pos (by simp [h])]
  simp [nums_drop]
theorem ownOf_ok (h__law_own_of : P 10 = some d__law_own_of) (W : Nat) : ∀ (n d : Nat) (ns : List Int) (st : Store), d < n → ns.length = 2 ^ d → (∀ x ∈ ns, x = 0 ∨ x = 1) → run sub W P n 10 [.f (.lst (nums ns))] st = .ok (.f (encO (ownOf d ns))) st
  | 0, _, _, _, h, _, _ => absurd h (Nat.not_lt_zero _)
  | n + 1, d, [], st, h, h2, h3 => by
    have := pow2_pos d
    simp at h2
    omega
  | n + 1, d, x :: xs, st, h, h2, h3 => by
    rw [run_succ (d := d__law_own_of) h__law_own_of rfl]
    have i0 : ixS st (.f (.lst (nums (x :: xs)))) (.int 0) = some (.f (.int x)) := rfl
    have ai := allInts_nums (x :: xs)
    have e := bit_enc (h3 x (List.mem_cons_self ..))
    have bt : bmT .count (.lst (nums (x :: xs))) = true := rfl
    have bm : bmF .count (.lst (nums (x :: xs))) [.int x] = some (.int ((x :: xs).count x : Nat)) := by
      show (allInts (nums (x :: xs))).map _ = _
      rw [ai]
      rfl
    have bl : bltS st .len [.f (.lst (nums (x :: xs)))] = some (.int ((x :: xs).length : Nat)) := by
      show some (FV.int ((nums (x :: xs)).length : Nat)) = _
      rw [nums_length]
    have hd : (x :: xs).headD 0 = x := rfl
    generalize hns : x :: xs = ns at *
    have eq : (FV.int (ns.count x : Nat)).eqv (.int (ns.length : Nat)) = decide (ns.count x = ns.length) := by
      simp [FV.eqv]
      by_cases q : ns.count x = ns.length <;> simp [q]
      omega
    by_cases c : ns.count x = ns.length
    · have eo : ownOf d ns = .leaf (decide (x = 1)) := by
        cases d with
        | zero => unfold ownOf; rw [hd]
        | succ d => unfold ownOf; rw [hd, if_pos c]
      rw [eo, ← e]
      rw [c] at eq bm
      simp [bind_ok, bind_exc, fr_ok, fr_exc, frI_ok, frI_exc, tst_ok, tst_exc, of_some, s_ok, s_exc, sb_nx, sb_rt, sb_exc, so_some, g_true, kGet_some, ev_v, ev_k, k2bin_eq, k1bin_eq, ev_bin, k2cmp_eq, k1cmp_eq, ev_cmp, k2ix_eq, k1ix_eq, ev_ix, k2dget_eq, k1dget_eq, ev_dget, k2din_eq, k1din_eq, ev_din, k2dnot_eq, k1dnot_eq, ev_dnot, k2cutTo_eq, k1cutTo_eq, ev_cutTo, k2cutFrom_eq, k1cutFrom_eq, ev_cutFrom, k1and_eq, ev_and, k1or_eq, ev_or, k1not_eq, ev_not, k1neg_eq, ev_neg, k1ite_eq, ev_ite, k4chain_eq, k3chain_eq, k2chain_eq, k1chain_eq, ev_chain, k1tup_eq, ev_tup, k1lst_eq, ev_lst, k1mlst_eq, ev_mlst, k1mdic_eq, ev_mdic, ev_call, k1blt_eq, ev_blt, k2meth_eq, k1meth_eq, ev_meth, k1make_eq, ev_make, k2make_ok, k2make_exc, k1fld_eq, ev_fld, k1isi_eq, ev_isi, k2bm_eq, k1bm_eq, ev_bm, k3cut_eq, k2cuti_eq, k2cut_eq, k1cut_eq, ev_cut, kElt_f, kLst_eq, kLcB_some, kLcT_eq, kLc_eq, ev_lc, kIfF_eq, kLcIfB_some, kLcIfT_eq, kLcIf_eq, ev_lcIf, k2es_eq, k1es_eq, es_nil, es_cons, kSeq_eq, it_seq, kRange_eq, it_range, k3rangeS_eq, k2rangeS_eq, k1rangeS_eq, it_rangeS, kEnum_lst, kEnum_scr, it_enum, kZip_lst, k1zip_eq, it_zip, kSet_eq, ex_set, kNx_eq, kUnp_f, ex_unp, k2par_eq, k1par_eq, ex_par, k2app_eq, k1app_eq, ex_app, kIf_b, ex_ifs, kRt_eq, ex_ret, kEx_eq, ex_ex, ex_raise, ex_pass, kTry_exc, kTry_nx, kTry_rt, ex_try, kFors_eq, ex_fors, ex_whl, k3stx_eq, kFz_f, k2stx_eq, k1stx_eq, ex_setIx, k2stf_eq, k1stf_eq, ex_setFld, bk_nil, bk_cons, env0, leave_rt, leave_exc, cmpS, cmpop, binop, intsOf, g_true, allF, bindT, wipeE, okd_int, FV.toInt?, d__law_own_of, i0, bt, bm, bl, eq, c]
    · cases d with
      | zero =>
        exfalso
        apply c
        subst hns
        cases xs with
        | nil => simp
        | cons y ys => simp at h2
      | succ d =>
        have hl : ns.length / 2 = 2 ^ d := by rw [h2, Nat.pow_succ]; omega
        have hp := pow2_pos d
        have eo : ownOf (d + 1) ns = .node (ownOf d (ns.take (ns.length / 2))) (ownOf d (ns.drop (ns.length / 2))) := by
          rw [ownOf, hd, if_neg c]
        have i1 := ownOf_ok h__law_own_of W n d (ns.take (ns.length / 2)) st (by omega) (by rw [List.length_take, hl, h2, Nat.pow_succ]; omega) (fun y hy => h3 y (List.mem_of_mem_take hy))
        have i2 := ownOf_ok h__law_own_of W n d (ns.drop (ns.length / 2)) st (by omega) (by rw [List.length_drop, hl, h2, Nat.pow_succ]; omega) (fun y hy => h3 y (List.mem_of_mem_drop hy))
        have nn : (0 : Int) ≤ (ns.length : Int) / 2 := by omega
        have tn : ((ns.length : Int) / 2).toNat = ns.length / 2 := by omega
        have c1 := cutTo_nums ns _ nn
        have c2 := cutFrom_nums ns _ nn
        rw [tn] at c1 c2
        rw [eo, encO_node]
        simp [bind_ok, bind_exc, fr_ok, fr_exc, frI_ok, frI_exc, tst_ok, tst_exc, of_some, s_ok, s_exc, sb_nx, sb_rt, sb_exc, so_some, g_true, kGet_some, ev_v, ev_k, k2bin_eq, k1bin_eq, ev_bin, k2cmp_eq, k1cmp_eq, ev_cmp, k2ix_eq, k1ix_eq, ev_ix, k2dget_eq, k1dget_eq, ev_dget, k2din_eq, k1din_eq, ev_din, k2dnot_eq, k1dnot_eq, ev_dnot, k2cutTo_eq, k1cutTo_eq, ev_cutTo, k2cutFrom_eq, k1cutFrom_eq, ev_cutFrom, k1and_eq, ev_and, k1or_eq, ev_or, k1not_eq, ev_not, k1neg_eq, ev_neg, k1ite_eq, ev_ite, k4chain_eq, k3chain_eq, k2chain_eq, k1chain_eq, ev_chain, k1tup_eq, ev_tup, k1lst_eq, ev_lst, k1mlst_eq, ev_mlst, k1mdic_eq, ev_mdic, ev_call, k1blt_eq, ev_blt, k2meth_eq, k1meth_eq, ev_meth, k1make_eq, ev_make, k2make_ok, k2make_exc, k1fld_eq, ev_fld, k1isi_eq, ev_isi, k2bm_eq, k1bm_eq, ev_bm, k3cut_eq, k2cuti_eq, k2cut_eq, k1cut_eq, ev_cut, kElt_f, kLst_eq, kLcB_some, kLcT_eq, kLc_eq, ev_lc, kIfF_eq, kLcIfB_some, kLcIfT_eq, kLcIf_eq, ev_lcIf, k2es_eq, k1es_eq, es_nil, es_cons, kSeq_eq, it_seq, kRange_eq, it_range, k3rangeS_eq, k2rangeS_eq, k1rangeS_eq, it_rangeS, kEnum_lst, kEnum_scr, it_enum, kZip_lst, k1zip_eq, it_zip, kSet_eq, ex_set, kNx_eq, kUnp_f, ex_unp, k2par_eq, k1par_eq, ex_par, k2app_eq, k1app_eq, ex_app, kIf_b, ex_ifs, kRt_eq, ex_ret, kEx_eq, ex_ex, ex_raise, ex_pass, kTry_exc, kTry_nx, kTry_rt, ex_try, kFors_eq, ex_fors, ex_whl, k3stx_eq, kFz_f, k2stx_eq, k1stx_eq, ex_setIx, k2stf_eq, k1stf_eq, ex_setFld, bk_nil, bk_cons, env0, leave_rt, leave_exc, cmpS, cmpop, binop, intsOf, g_true, allF, bindT, wipeE, okd_int, FV.toInt?, d__law_own_of, i0, bt, bm, bl, eq, c, c1, c2, i1, i2]
/-- the law's own word of what was caught -/
def wordOf : Nat → List Nat
  | 11 => [111, 119, 110]
  | 12 => [116, 111, 108, 100]
  | 13 => [115, 104, 97, 114, 101, 100]
  | 14 => [110, 111, 32, 111, 119, 110]
  | 15 => [114, 111, 119]
  | _ => [104, 97, 110, 100]
theorem word_ok (h__law_word : P 16 = some d__law_word) (W n c : Nat) (st : Store) (hc : 11 ≤ c) (hc2 : c ≤ 16) (h10 : sub c 10 = some true) (hs : ∀ k, 11 ≤ k → k ≤ 16 → sub c k = some (decide (c = k))) (hcc : (sub c c).isSome = true) :
    run sub W P (n + 1) 16 [.f (.exc c)] st = .ok (.f (.str (wordOf c))) st := by
  rw [run_succ (d := d__law_word) h__law_word rfl]
  have s1 := hs 11 (by decide) (by decide)
  have s2 := hs 12 (by decide) (by decide)
  have s3 := hs 13 (by decide) (by decide)
  have s4 := hs 14 (by decide) (by decide)
  have s5 := hs 15 (by decide) (by decide)
  have s6 := hs 16 (by decide) (by decide)
  have h10' : 10 ≤ c := by omega
  obtain rfl | rfl | rfl | rfl | rfl | rfl : c = 11 ∨ c = 12 ∨ c = 13 ∨ c = 14 ∨ c = 15 ∨ c = 16 := by omega
  all_goals simp [bind_ok, bind_exc, fr_ok, fr_exc, frI_ok, frI_exc, tst_ok, tst_exc, of_some, s_ok, s_exc, sb_nx, sb_rt, sb_exc, so_some, g_true, kGet_some, ev_v, ev_k, k2bin_eq, k1bin_eq, ev_bin, k2cmp_eq, k1cmp_eq, ev_cmp, k2ix_eq, k1ix_eq, ev_ix, k2dget_eq, k1dget_eq, ev_dget, k2din_eq, k1din_eq, ev_din, k2dnot_eq, k1dnot_eq, ev_dnot, k2cutTo_eq, k1cutTo_eq, ev_cutTo, k2cutFrom_eq, k1cutFrom_eq, ev_cutFrom, k1and_eq, ev_and, k1or_eq, ev_or, k1not_eq, ev_not, k1neg_eq, ev_neg, k1ite_eq, ev_ite, k4chain_eq, k3chain_eq, k2chain_eq, k1chain_eq, ev_chain, k1tup_eq, ev_tup, k1lst_eq, ev_lst, k1mlst_eq, ev_mlst, k1mdic_eq, ev_mdic, ev_call, k1blt_eq, ev_blt, k2meth_eq, k1meth_eq, ev_meth, k1make_eq, ev_make, k2make_ok, k2make_exc, k1fld_eq, ev_fld, k1isi_eq, ev_isi, k2bm_eq, k1bm_eq, ev_bm, k3cut_eq, k2cuti_eq, k2cut_eq, k1cut_eq, ev_cut, kElt_f, kLst_eq, kLcB_some, kLcT_eq, kLc_eq, ev_lc, kIfF_eq, kLcIfB_some, kLcIfT_eq, kLcIf_eq, ev_lcIf, k2es_eq, k1es_eq, es_nil, es_cons, kSeq_eq, it_seq, kRange_eq, it_range, k3rangeS_eq, k2rangeS_eq, k1rangeS_eq, it_rangeS, kEnum_lst, kEnum_scr, it_enum, kZip_lst, k1zip_eq, it_zip, kSet_eq, ex_set, kNx_eq, kUnp_f, ex_unp, k2par_eq, k1par_eq, ex_par, k2app_eq, k1app_eq, ex_app, kIf_b, ex_ifs, kRt_eq, ex_ret, kEx_eq, ex_ex, ex_raise, ex_pass, kTry_exc, kTry_nx, kTry_rt, ex_try, kFors_eq, ex_fors, ex_whl, k3stx_eq, kFz_f, k2stx_eq, k1stx_eq, ex_setIx, k2stf_eq, k1stf_eq, ex_setFld, bk_nil, bk_cons, env0, leave_rt, leave_exc, cmpS, cmpop, binop, intsOf, g_true, allF, bindT, wipeE, okd_int, FV.toInt?, d__law_word, isiS, isiF, h10, s1, s2, s3, s4, s5, s6, hcc, bltS, bltF, b2i, rep, bmT, bmF, allStrs, joinS, wordOf, line]
end Pl
end MP

namespace MP
namespace Pl
open Fk
/-! told parts: what the defs give -/
variable {sub : Nat → Nat → Option Bool} {P : Nat → Option Def}
def encT : Told → FV
  | .num i => .int i
  | .node a l r => .tup [.int a, encT l, encT r]
theorem encT_num (i : Int) : encT (.num i) = .int i := rfl
theorem encT_node (a : Int) (l r : Told) : encT (.node a l r) = .tup [.int a, encT l, encT r] := rfl
theorem encT_data : ∀ t : Told, (encT t).data = true
  | .num _ => by simp [encT, FV.data]
  | .node a l r => by simp [encT, FV.data, FV.datas, encT_data l, encT_data r]
theorem encT_depth : ∀ t : Told, (encT t).depth = t.depth
  | .num _ => by simp [encT, FV.depth, Told.depth]
  | .node a l r => by simp [encT, FV.depth, FV.depths, Told.depth, encT_depth l, encT_depth r]
theorem encT_okd {t : Told} (h : t.depth ≤ 60) : (encT t).okd = true := by
  unfold FV.okd
  rw [encT_data, encT_depth, decide_eq_true h]
  rfl
theorem encT_eqv : ∀ s t : Told, (encT s).eqv (encT t) = decide (s = t)
  | .num i, .num j => by by_cases h : i = j <;> simp [encT, FV.eqv, h]
  | .num i, .node a l r => by simp [encT, FV.eqv]
  | .node a l r, .num j => by simp [encT, FV.eqv]
  | .node a l r, .node b l' r' => by
    simp only [encT, FV.eqv, FV.eqvs, encT_eqv l l', encT_eqv r r', Told.node.injEq, Bool.and_true]
    by_cases h0 : a = b <;> by_cases h1 : l = l' <;> by_cases h2 : r = r' <;> simp [h0, h1, h2]
theorem encT_isi (st : Store) : ∀ t : Told, isiS sub st (.f (encT t)) .tuple = some t.isNode
  | .num _ => rfl
  | .node _ _ _ => rfl
theorem lifted_ok (h_lifted : P 22 = some d_lifted) (W n : Nat) (t : Told) (m : Int) (st : Store) : run sub W P (n + 1) 22 [.f (encT t), .f (.int m)] st = .ok (.f (encT (t.lift m))) st := by
  rw [run_succ (d := d_lifted) h_lifted rfl]
  cases t <;> simp [bind_ok, bind_exc, fr_ok, fr_exc, frI_ok, frI_exc, tst_ok, tst_exc, of_some, s_ok, s_exc, sb_nx, sb_rt, sb_exc, so_some, g_true, kGet_some, ev_v, ev_k, k2bin_eq, k1bin_eq, ev_bin, k2cmp_eq, k1cmp_eq, ev_cmp, k2ix_eq, k1ix_eq, ev_ix, k2dget_eq, k1dget_eq, ev_dget, k2din_eq, k1din_eq, ev_din, k2dnot_eq, k1dnot_eq, ev_dnot, k2cutTo_eq, k1cutTo_eq, ev_cutTo, k2cutFrom_eq, k1cutFrom_eq, ev_cutFrom, k1and_eq, ev_and, k1or_eq, ev_or, k1not_eq, ev_not, k1neg_eq, ev_neg, k1ite_eq, ev_ite, k4chain_eq, k3chain_eq, k2chain_eq, k1chain_eq, ev_chain, k1tup_eq, ev_tup, k1lst_eq, ev_lst, k1mlst_eq, ev_mlst, k1mdic_eq, ev_mdic, ev_call, k1blt_eq, ev_blt, k2meth_eq, k1meth_eq, ev_meth, k1make_eq, ev_make, k2make_ok, k2make_exc, k1fld_eq, ev_fld, k1isi_eq, ev_isi, k2bm_eq, k1bm_eq, ev_bm, k3cut_eq, k2cuti_eq, k2cut_eq, k1cut_eq, ev_cut, kElt_f, kLst_eq, kLcB_some, kLcT_eq, kLc_eq, ev_lc, kIfF_eq, kLcIfB_some, kLcIfT_eq, kLcIf_eq, ev_lcIf, k2es_eq, k1es_eq, es_nil, es_cons, kSeq_eq, it_seq, kRange_eq, it_range, k3rangeS_eq, k2rangeS_eq, k1rangeS_eq, it_rangeS, kEnum_lst, kEnum_scr, it_enum, kZip_lst, k1zip_eq, it_zip, kSet_eq, ex_set, kNx_eq, kUnp_f, ex_unp, k2par_eq, k1par_eq, ex_par, k2app_eq, k1app_eq, ex_app, kIf_b, ex_ifs, kRt_eq, ex_ret, kEx_eq, ex_ex, ex_raise, ex_pass, kTry_exc, kTry_nx, kTry_rt, ex_try, kFors_eq, ex_fors, ex_whl, k3stx_eq, kFz_f, k2stx_eq, k1stx_eq, ex_setIx, k2stf_eq, k1stf_eq, ex_setFld, bk_nil, bk_cons, env0, leave_rt, leave_exc, cmpS, cmpop, binop, intsOf, g_true, allF, bindT, wipeE, okd_int, FV.toInt?, d_lifted, encT, isiS, isiF, ixS, atIx, Told.lift]
theorem base_ok (h_base : P 23 = some d_base) (W n : Nat) (t : Told) (st : Store) : run sub W P (n + 1) 23 [.f (encT t)] st = .ok (.f (.int t.base)) st := by
  rw [run_succ (d := d_base) h_base rfl]
  cases t <;> simp [bind_ok, bind_exc, fr_ok, fr_exc, frI_ok, frI_exc, tst_ok, tst_exc, of_some, s_ok, s_exc, sb_nx, sb_rt, sb_exc, so_some, g_true, kGet_some, ev_v, ev_k, k2bin_eq, k1bin_eq, ev_bin, k2cmp_eq, k1cmp_eq, ev_cmp, k2ix_eq, k1ix_eq, ev_ix, k2dget_eq, k1dget_eq, ev_dget, k2din_eq, k1din_eq, ev_din, k2dnot_eq, k1dnot_eq, ev_dnot, k2cutTo_eq, k1cutTo_eq, ev_cutTo, k2cutFrom_eq, k1cutFrom_eq, ev_cutFrom, k1and_eq, ev_and, k1or_eq, ev_or, k1not_eq, ev_not, k1neg_eq, ev_neg, k1ite_eq, ev_ite, k4chain_eq, k3chain_eq, k2chain_eq, k1chain_eq, ev_chain, k1tup_eq, ev_tup, k1lst_eq, ev_lst, k1mlst_eq, ev_mlst, k1mdic_eq, ev_mdic, ev_call, k1blt_eq, ev_blt, k2meth_eq, k1meth_eq, ev_meth, k1make_eq, ev_make, k2make_ok, k2make_exc, k1fld_eq, ev_fld, k1isi_eq, ev_isi, k2bm_eq, k1bm_eq, ev_bm, k3cut_eq, k2cuti_eq, k2cut_eq, k1cut_eq, ev_cut, kElt_f, kLst_eq, kLcB_some, kLcT_eq, kLc_eq, ev_lc, kIfF_eq, kLcIfB_some, kLcIfT_eq, kLcIf_eq, ev_lcIf, k2es_eq, k1es_eq, es_nil, es_cons, kSeq_eq, it_seq, kRange_eq, it_range, k3rangeS_eq, k2rangeS_eq, k1rangeS_eq, it_rangeS, kEnum_lst, kEnum_scr, it_enum, kZip_lst, k1zip_eq, it_zip, kSet_eq, ex_set, kNx_eq, kUnp_f, ex_unp, k2par_eq, k1par_eq, ex_par, k2app_eq, k1app_eq, ex_app, kIf_b, ex_ifs, kRt_eq, ex_ret, kEx_eq, ex_ex, ex_raise, ex_pass, kTry_exc, kTry_nx, kTry_rt, ex_try, kFors_eq, ex_fors, ex_whl, k3stx_eq, kFz_f, k2stx_eq, k1stx_eq, ex_setIx, k2stf_eq, k1stf_eq, ex_setFld, bk_nil, bk_cons, env0, leave_rt, leave_exc, cmpS, cmpop, binop, intsOf, g_true, allF, bindT, wipeE, okd_int, FV.toInt?, d_base, encT, isiS, isiF, ixS, atIx, Told.base]
theorem spread_ok (h_spread : P 24 = some d_spread) (h_lifted : P 22 = some d_lifted) (h_base : P 23 = some d_base) (W n : Nat) (k : Int) (l r : Told) (st : Store) (hl : l.depth ≤ 60) (hr : r.depth ≤ 60) : run sub W P (n + 2) 24 [.f (.int k), .f (encT l), .f (encT r)] st = .ok (.f (encT (Told.spread k l r))) st := by
  rw [run_succ (d := d_spread) h_spread rfl]
  have okl := encT_okd hl
  have okr := encT_okd hr
  have b1 := fun st => base_ok (sub := sub) h_base W n l st
  have b2 := fun st => base_ok (sub := sub) h_base W n r st
  have l1 := fun st => lifted_ok (sub := sub) h_lifted W n l (-(min l.base r.base)) st
  have l2 := fun st => lifted_ok (sub := sub) h_lifted W n r (-(min l.base r.base)) st
  have mn : ∀ i j : Int, bltF .min [.int i, .int j] = some (.int (min i j)) := fun _ _ => rfl
  have eq := encT_eqv l r
  by_cases c : l = r
  · subst c
    cases l with
    | num i =>
      have e : Told.spread k (.num i) (.num i) = .num (k + i) := by unfold Told.spread; rw [if_pos ⟨rfl, rfl⟩]; rfl
      rw [e]
      have e2 : (FV.int i).eqv (.int i) = true := by simp [FV.eqv]
      simp [bind_ok, bind_exc, fr_ok, fr_exc, frI_ok, frI_exc, tst_ok, tst_exc, of_some, s_ok, s_exc, sb_nx, sb_rt, sb_exc, so_some, g_true, kGet_some, ev_v, ev_k, k2bin_eq, k1bin_eq, ev_bin, k2cmp_eq, k1cmp_eq, ev_cmp, k2ix_eq, k1ix_eq, ev_ix, k2dget_eq, k1dget_eq, ev_dget, k2din_eq, k1din_eq, ev_din, k2dnot_eq, k1dnot_eq, ev_dnot, k2cutTo_eq, k1cutTo_eq, ev_cutTo, k2cutFrom_eq, k1cutFrom_eq, ev_cutFrom, k1and_eq, ev_and, k1or_eq, ev_or, k1not_eq, ev_not, k1neg_eq, ev_neg, k1ite_eq, ev_ite, k4chain_eq, k3chain_eq, k2chain_eq, k1chain_eq, ev_chain, k1tup_eq, ev_tup, k1lst_eq, ev_lst, k1mlst_eq, ev_mlst, k1mdic_eq, ev_mdic, ev_call, k1blt_eq, ev_blt, k2meth_eq, k1meth_eq, ev_meth, k1make_eq, ev_make, k2make_ok, k2make_exc, k1fld_eq, ev_fld, k1isi_eq, ev_isi, k2bm_eq, k1bm_eq, ev_bm, k3cut_eq, k2cuti_eq, k2cut_eq, k1cut_eq, ev_cut, kElt_f, kLst_eq, kLcB_some, kLcT_eq, kLc_eq, ev_lc, kIfF_eq, kLcIfB_some, kLcIfT_eq, kLcIf_eq, ev_lcIf, k2es_eq, k1es_eq, es_nil, es_cons, kSeq_eq, it_seq, kRange_eq, it_range, k3rangeS_eq, k2rangeS_eq, k1rangeS_eq, it_rangeS, kEnum_lst, kEnum_scr, it_enum, kZip_lst, k1zip_eq, it_zip, kSet_eq, ex_set, kNx_eq, kUnp_f, ex_unp, k2par_eq, k1par_eq, ex_par, k2app_eq, k1app_eq, ex_app, kIf_b, ex_ifs, kRt_eq, ex_ret, kEx_eq, ex_ex, ex_raise, ex_pass, kTry_exc, kTry_nx, kTry_rt, ex_try, kFors_eq, ex_fors, ex_whl, k3stx_eq, kFz_f, k2stx_eq, k1stx_eq, ex_setIx, k2stf_eq, k1stf_eq, ex_setFld, bk_nil, bk_cons, env0, leave_rt, leave_exc, cmpS, cmpop, binop, intsOf, g_true, allF, bindT, wipeE, okd_int, FV.toInt?, d_spread, encT_num, isiS, isiF, e2]
    | node a x y =>
      have e : Told.spread k (.node a x y) (.node a x y) = .node (k + a) (.node (a + -a) x y) (.node (a + -a) x y) := by
        unfold Told.spread
        rw [if_neg (by simp [Told.isNode])]
        simp [Told.base, Told.lift]
      have e3 : (encT (.node a x y)).eqv (encT (.node a x y)) = true := by rw [encT_eqv]; simp
      simp only [Told.base, Int.min_self, Told.lift] at b1 l1
      rw [e, encT_node (k + a)]
      simp [bind_ok, bind_exc, fr_ok, fr_exc, frI_ok, frI_exc, tst_ok, tst_exc, of_some, s_ok, s_exc, sb_nx, sb_rt, sb_exc, so_some, g_true, kGet_some, ev_v, ev_k, k2bin_eq, k1bin_eq, ev_bin, k2cmp_eq, k1cmp_eq, ev_cmp, k2ix_eq, k1ix_eq, ev_ix, k2dget_eq, k1dget_eq, ev_dget, k2din_eq, k1din_eq, ev_din, k2dnot_eq, k1dnot_eq, ev_dnot, k2cutTo_eq, k1cutTo_eq, ev_cutTo, k2cutFrom_eq, k1cutFrom_eq, ev_cutFrom, k1and_eq, ev_and, k1or_eq, ev_or, k1not_eq, ev_not, k1neg_eq, ev_neg, k1ite_eq, ev_ite, k4chain_eq, k3chain_eq, k2chain_eq, k1chain_eq, ev_chain, k1tup_eq, ev_tup, k1lst_eq, ev_lst, k1mlst_eq, ev_mlst, k1mdic_eq, ev_mdic, ev_call, k1blt_eq, ev_blt, k2meth_eq, k1meth_eq, ev_meth, k1make_eq, ev_make, k2make_ok, k2make_exc, k1fld_eq, ev_fld, k1isi_eq, ev_isi, k2bm_eq, k1bm_eq, ev_bm, k3cut_eq, k2cuti_eq, k2cut_eq, k1cut_eq, ev_cut, kElt_f, kLst_eq, kLcB_some, kLcT_eq, kLc_eq, ev_lc, kIfF_eq, kLcIfB_some, kLcIfT_eq, kLcIf_eq, ev_lcIf, k2es_eq, k1es_eq, es_nil, es_cons, kSeq_eq, it_seq, kRange_eq, it_range, k3rangeS_eq, k2rangeS_eq, k1rangeS_eq, it_rangeS, kEnum_lst, kEnum_scr, it_enum, kZip_lst, k1zip_eq, it_zip, kSet_eq, ex_set, kNx_eq, kUnp_f, ex_unp, k2par_eq, k1par_eq, ex_par, k2app_eq, k1app_eq, ex_app, kIf_b, ex_ifs, kRt_eq, ex_ret, kEx_eq, ex_ex, ex_raise, ex_pass, kTry_exc, kTry_nx, kTry_rt, ex_try, kFors_eq, ex_fors, ex_whl, k3stx_eq, kFz_f, k2stx_eq, k1stx_eq, ex_setIx, k2stf_eq, k1stf_eq, ex_setFld, bk_nil, bk_cons, env0, leave_rt, leave_exc, cmpS, cmpop, binop, intsOf, g_true, allF, bindT, wipeE, okd_int, FV.toInt?, d_spread, okl, e3, encT_isi, Told.isNode, b1, l1, bltS, mn]
  · rw [decide_eq_false c] at eq
    have e : Told.spread k l r = .node (k + min l.base r.base) (l.lift (-(min l.base r.base))) (r.lift (-(min l.base r.base))) := by
      unfold Told.spread
      rw [if_neg (fun q => c q.1)]
    rw [e, encT_node]
    simp [bind_ok, bind_exc, fr_ok, fr_exc, frI_ok, frI_exc, tst_ok, tst_exc, of_some, s_ok, s_exc, sb_nx, sb_rt, sb_exc, so_some, g_true, kGet_some, ev_v, ev_k, k2bin_eq, k1bin_eq, ev_bin, k2cmp_eq, k1cmp_eq, ev_cmp, k2ix_eq, k1ix_eq, ev_ix, k2dget_eq, k1dget_eq, ev_dget, k2din_eq, k1din_eq, ev_din, k2dnot_eq, k1dnot_eq, ev_dnot, k2cutTo_eq, k1cutTo_eq, ev_cutTo, k2cutFrom_eq, k1cutFrom_eq, ev_cutFrom, k1and_eq, ev_and, k1or_eq, ev_or, k1not_eq, ev_not, k1neg_eq, ev_neg, k1ite_eq, ev_ite, k4chain_eq, k3chain_eq, k2chain_eq, k1chain_eq, ev_chain, k1tup_eq, ev_tup, k1lst_eq, ev_lst, k1mlst_eq, ev_mlst, k1mdic_eq, ev_mdic, ev_call, k1blt_eq, ev_blt, k2meth_eq, k1meth_eq, ev_meth, k1make_eq, ev_make, k2make_ok, k2make_exc, k1fld_eq, ev_fld, k1isi_eq, ev_isi, k2bm_eq, k1bm_eq, ev_bm, k3cut_eq, k2cuti_eq, k2cut_eq, k1cut_eq, ev_cut, kElt_f, kLst_eq, kLcB_some, kLcT_eq, kLc_eq, ev_lc, kIfF_eq, kLcIfB_some, kLcIfT_eq, kLcIf_eq, ev_lcIf, k2es_eq, k1es_eq, es_nil, es_cons, kSeq_eq, it_seq, kRange_eq, it_range, k3rangeS_eq, k2rangeS_eq, k1rangeS_eq, it_rangeS, kEnum_lst, kEnum_scr, it_enum, kZip_lst, k1zip_eq, it_zip, kSet_eq, ex_set, kNx_eq, kUnp_f, ex_unp, k2par_eq, k1par_eq, ex_par, k2app_eq, k1app_eq, ex_app, kIf_b, ex_ifs, kRt_eq, ex_ret, kEx_eq, ex_ex, ex_raise, ex_pass, kTry_exc, kTry_nx, kTry_rt, ex_try, kFors_eq, ex_fors, ex_whl, k3stx_eq, kFz_f, k2stx_eq, k1stx_eq, ex_setIx, k2stf_eq, k1stf_eq, ex_setFld, bk_nil, bk_cons, env0, leave_rt, leave_exc, cmpS, cmpop, binop, intsOf, g_true, allF, bindT, wipeE, okd_int, FV.toInt?, d_spread, okl, okr, eq, b1, b2, l1, l2, bltS, mn]
theorem toldLeast_ok (h_told_least : P 26 = some d_told_least) (h_base : P 23 = some d_base) (W n : Nat) (t : Told) (st : Store) : run sub W P (n + 2) 26 [.f (encT t)] st = .ok (.f (.int t.base)) st := by
  rw [run_succ (d := d_told_least) h_told_least rfl]
  have b1 := fun st => base_ok (sub := sub) h_base W n t st
  simp [bind_ok, bind_exc, fr_ok, fr_exc, frI_ok, frI_exc, tst_ok, tst_exc, of_some, s_ok, s_exc, sb_nx, sb_rt, sb_exc, so_some, g_true, kGet_some, ev_v, ev_k, k2bin_eq, k1bin_eq, ev_bin, k2cmp_eq, k1cmp_eq, ev_cmp, k2ix_eq, k1ix_eq, ev_ix, k2dget_eq, k1dget_eq, ev_dget, k2din_eq, k1din_eq, ev_din, k2dnot_eq, k1dnot_eq, ev_dnot, k2cutTo_eq, k1cutTo_eq, ev_cutTo, k2cutFrom_eq, k1cutFrom_eq, ev_cutFrom, k1and_eq, ev_and, k1or_eq, ev_or, k1not_eq, ev_not, k1neg_eq, ev_neg, k1ite_eq, ev_ite, k4chain_eq, k3chain_eq, k2chain_eq, k1chain_eq, ev_chain, k1tup_eq, ev_tup, k1lst_eq, ev_lst, k1mlst_eq, ev_mlst, k1mdic_eq, ev_mdic, ev_call, k1blt_eq, ev_blt, k2meth_eq, k1meth_eq, ev_meth, k1make_eq, ev_make, k2make_ok, k2make_exc, k1fld_eq, ev_fld, k1isi_eq, ev_isi, k2bm_eq, k1bm_eq, ev_bm, k3cut_eq, k2cuti_eq, k2cut_eq, k1cut_eq, ev_cut, kElt_f, kLst_eq, kLcB_some, kLcT_eq, kLc_eq, ev_lc, kIfF_eq, kLcIfB_some, kLcIfT_eq, kLcIf_eq, ev_lcIf, k2es_eq, k1es_eq, es_nil, es_cons, kSeq_eq, it_seq, kRange_eq, it_range, k3rangeS_eq, k2rangeS_eq, k1rangeS_eq, it_rangeS, kEnum_lst, kEnum_scr, it_enum, kZip_lst, k1zip_eq, it_zip, kSet_eq, ex_set, kNx_eq, kUnp_f, ex_unp, k2par_eq, k1par_eq, ex_par, k2app_eq, k1app_eq, ex_app, kIf_b, ex_ifs, kRt_eq, ex_ret, kEx_eq, ex_ex, ex_raise, ex_pass, kTry_exc, kTry_nx, kTry_rt, ex_try, kFors_eq, ex_fors, ex_whl, k3stx_eq, kFz_f, k2stx_eq, k1stx_eq, ex_setIx, k2stf_eq, k1stf_eq, ex_setFld, bk_nil, bk_cons, env0, leave_rt, leave_exc, cmpS, cmpop, binop, intsOf, g_true, allF, bindT, wipeE, okd_int, FV.toInt?, d_told_least, b1]
theorem toldGreatest_ok (h_told_greatest : P 27 = some d_told_greatest) (W : Nat) : ∀ (n : Nat) (t : Told) (st : Store), t.depth < n → run sub W P n 27 [.f (encT t)] st = .ok (.f (.int t.greatest)) st
  | 0, _, _, h => absurd h (Nat.not_lt_zero _)
  | n + 1, .num i, st, _ => by
    rw [run_succ (d := d_told_greatest) h_told_greatest rfl]
    simp [bind_ok, bind_exc, fr_ok, fr_exc, frI_ok, frI_exc, tst_ok, tst_exc, of_some, s_ok, s_exc, sb_nx, sb_rt, sb_exc, so_some, g_true, kGet_some, ev_v, ev_k, k2bin_eq, k1bin_eq, ev_bin, k2cmp_eq, k1cmp_eq, ev_cmp, k2ix_eq, k1ix_eq, ev_ix, k2dget_eq, k1dget_eq, ev_dget, k2din_eq, k1din_eq, ev_din, k2dnot_eq, k1dnot_eq, ev_dnot, k2cutTo_eq, k1cutTo_eq, ev_cutTo, k2cutFrom_eq, k1cutFrom_eq, ev_cutFrom, k1and_eq, ev_and, k1or_eq, ev_or, k1not_eq, ev_not, k1neg_eq, ev_neg, k1ite_eq, ev_ite, k4chain_eq, k3chain_eq, k2chain_eq, k1chain_eq, ev_chain, k1tup_eq, ev_tup, k1lst_eq, ev_lst, k1mlst_eq, ev_mlst, k1mdic_eq, ev_mdic, ev_call, k1blt_eq, ev_blt, k2meth_eq, k1meth_eq, ev_meth, k1make_eq, ev_make, k2make_ok, k2make_exc, k1fld_eq, ev_fld, k1isi_eq, ev_isi, k2bm_eq, k1bm_eq, ev_bm, k3cut_eq, k2cuti_eq, k2cut_eq, k1cut_eq, ev_cut, kElt_f, kLst_eq, kLcB_some, kLcT_eq, kLc_eq, ev_lc, kIfF_eq, kLcIfB_some, kLcIfT_eq, kLcIf_eq, ev_lcIf, k2es_eq, k1es_eq, es_nil, es_cons, kSeq_eq, it_seq, kRange_eq, it_range, k3rangeS_eq, k2rangeS_eq, k1rangeS_eq, it_rangeS, kEnum_lst, kEnum_scr, it_enum, kZip_lst, k1zip_eq, it_zip, kSet_eq, ex_set, kNx_eq, kUnp_f, ex_unp, k2par_eq, k1par_eq, ex_par, k2app_eq, k1app_eq, ex_app, kIf_b, ex_ifs, kRt_eq, ex_ret, kEx_eq, ex_ex, ex_raise, ex_pass, kTry_exc, kTry_nx, kTry_rt, ex_try, kFors_eq, ex_fors, ex_whl, k3stx_eq, kFz_f, k2stx_eq, k1stx_eq, ex_setIx, k2stf_eq, k1stf_eq, ex_setFld, bk_nil, bk_cons, env0, leave_rt, leave_exc, cmpS, cmpop, binop, intsOf, g_true, allF, bindT, wipeE, okd_int, FV.toInt?, d_told_greatest, encT, isiS, isiF, Told.greatest]
  | n + 1, .node a l r, st, h => by
    simp only [Told.depth] at h
    have i1 := toldGreatest_ok h_told_greatest W n l st (by omega)
    have i2 := toldGreatest_ok h_told_greatest W n r st (by omega)
    rw [run_succ (d := d_told_greatest) h_told_greatest rfl]
    simp [bind_ok, bind_exc, fr_ok, fr_exc, frI_ok, frI_exc, tst_ok, tst_exc, of_some, s_ok, s_exc, sb_nx, sb_rt, sb_exc, so_some, g_true, kGet_some, ev_v, ev_k, k2bin_eq, k1bin_eq, ev_bin, k2cmp_eq, k1cmp_eq, ev_cmp, k2ix_eq, k1ix_eq, ev_ix, k2dget_eq, k1dget_eq, ev_dget, k2din_eq, k1din_eq, ev_din, k2dnot_eq, k1dnot_eq, ev_dnot, k2cutTo_eq, k1cutTo_eq, ev_cutTo, k2cutFrom_eq, k1cutFrom_eq, ev_cutFrom, k1and_eq, ev_and, k1or_eq, ev_or, k1not_eq, ev_not, k1neg_eq, ev_neg, k1ite_eq, ev_ite, k4chain_eq, k3chain_eq, k2chain_eq, k1chain_eq, ev_chain, k1tup_eq, ev_tup, k1lst_eq, ev_lst, k1mlst_eq, ev_mlst, k1mdic_eq, ev_mdic, ev_call, k1blt_eq, ev_blt, k2meth_eq, k1meth_eq, ev_meth, k1make_eq, ev_make, k2make_ok, k2make_exc, k1fld_eq, ev_fld, k1isi_eq, ev_isi, k2bm_eq, k1bm_eq, ev_bm, k3cut_eq, k2cuti_eq, k2cut_eq, k1cut_eq, ev_cut, kElt_f, kLst_eq, kLcB_some, kLcT_eq, kLc_eq, ev_lc, kIfF_eq, kLcIfB_some, kLcIfT_eq, kLcIf_eq, ev_lcIf, k2es_eq, k1es_eq, es_nil, es_cons, kSeq_eq, it_seq, kRange_eq, it_range, k3rangeS_eq, k2rangeS_eq, k1rangeS_eq, it_rangeS, kEnum_lst, kEnum_scr, it_enum, kZip_lst, k1zip_eq, it_zip, kSet_eq, ex_set, kNx_eq, kUnp_f, ex_unp, k2par_eq, k1par_eq, ex_par, k2app_eq, k1app_eq, ex_app, kIf_b, ex_ifs, kRt_eq, ex_ret, kEx_eq, ex_ex, ex_raise, ex_pass, kTry_exc, kTry_nx, kTry_rt, ex_try, kFors_eq, ex_fors, ex_whl, k3stx_eq, kFz_f, k2stx_eq, k1stx_eq, ex_setIx, k2stf_eq, k1stf_eq, ex_setFld, bk_nil, bk_cons, env0, leave_rt, leave_exc, cmpS, cmpop, binop, intsOf, g_true, allF, bindT, wipeE, okd_int, FV.toInt?, d_told_greatest, encT, isiS, isiF, Told.greatest, ixS, atIx, i1, i2, bltS, bltF]
theorem halves_ok (h_halves : P 32 = some d_halves) (h_lifted : P 22 = some d_lifted) (W n : Nat) (t : Told) (st : Store) : run sub W P (n + 2) 32 [.f (encT t)] st = .ok (.f (.tup [encT t.left, encT t.right])) st := by
  rw [run_succ (d := d_halves) h_halves rfl]
  cases t with
  | num i => simp [bind_ok, bind_exc, fr_ok, fr_exc, frI_ok, frI_exc, tst_ok, tst_exc, of_some, s_ok, s_exc, sb_nx, sb_rt, sb_exc, so_some, g_true, kGet_some, ev_v, ev_k, k2bin_eq, k1bin_eq, ev_bin, k2cmp_eq, k1cmp_eq, ev_cmp, k2ix_eq, k1ix_eq, ev_ix, k2dget_eq, k1dget_eq, ev_dget, k2din_eq, k1din_eq, ev_din, k2dnot_eq, k1dnot_eq, ev_dnot, k2cutTo_eq, k1cutTo_eq, ev_cutTo, k2cutFrom_eq, k1cutFrom_eq, ev_cutFrom, k1and_eq, ev_and, k1or_eq, ev_or, k1not_eq, ev_not, k1neg_eq, ev_neg, k1ite_eq, ev_ite, k4chain_eq, k3chain_eq, k2chain_eq, k1chain_eq, ev_chain, k1tup_eq, ev_tup, k1lst_eq, ev_lst, k1mlst_eq, ev_mlst, k1mdic_eq, ev_mdic, ev_call, k1blt_eq, ev_blt, k2meth_eq, k1meth_eq, ev_meth, k1make_eq, ev_make, k2make_ok, k2make_exc, k1fld_eq, ev_fld, k1isi_eq, ev_isi, k2bm_eq, k1bm_eq, ev_bm, k3cut_eq, k2cuti_eq, k2cut_eq, k1cut_eq, ev_cut, kElt_f, kLst_eq, kLcB_some, kLcT_eq, kLc_eq, ev_lc, kIfF_eq, kLcIfB_some, kLcIfT_eq, kLcIf_eq, ev_lcIf, k2es_eq, k1es_eq, es_nil, es_cons, kSeq_eq, it_seq, kRange_eq, it_range, k3rangeS_eq, k2rangeS_eq, k1rangeS_eq, it_rangeS, kEnum_lst, kEnum_scr, it_enum, kZip_lst, k1zip_eq, it_zip, kSet_eq, ex_set, kNx_eq, kUnp_f, ex_unp, k2par_eq, k1par_eq, ex_par, k2app_eq, k1app_eq, ex_app, kIf_b, ex_ifs, kRt_eq, ex_ret, kEx_eq, ex_ex, ex_raise, ex_pass, kTry_exc, kTry_nx, kTry_rt, ex_try, kFors_eq, ex_fors, ex_whl, k3stx_eq, kFz_f, k2stx_eq, k1stx_eq, ex_setIx, k2stf_eq, k1stf_eq, ex_setFld, bk_nil, bk_cons, env0, leave_rt, leave_exc, cmpS, cmpop, binop, intsOf, g_true, allF, bindT, wipeE, okd_int, FV.toInt?, d_halves, encT, isiS, isiF, Told.left, Told.right]
  | node a l r =>
    have l1 := fun st => lifted_ok (sub := sub) h_lifted W n l a st
    have l2 := fun st => lifted_ok (sub := sub) h_lifted W n r a st
    simp [bind_ok, bind_exc, fr_ok, fr_exc, frI_ok, frI_exc, tst_ok, tst_exc, of_some, s_ok, s_exc, sb_nx, sb_rt, sb_exc, so_some, g_true, kGet_some, ev_v, ev_k, k2bin_eq, k1bin_eq, ev_bin, k2cmp_eq, k1cmp_eq, ev_cmp, k2ix_eq, k1ix_eq, ev_ix, k2dget_eq, k1dget_eq, ev_dget, k2din_eq, k1din_eq, ev_din, k2dnot_eq, k1dnot_eq, ev_dnot, k2cutTo_eq, k1cutTo_eq, ev_cutTo, k2cutFrom_eq, k1cutFrom_eq, ev_cutFrom, k1and_eq, ev_and, k1or_eq, ev_or, k1not_eq, ev_not, k1neg_eq, ev_neg, k1ite_eq, ev_ite, k4chain_eq, k3chain_eq, k2chain_eq, k1chain_eq, ev_chain, k1tup_eq, ev_tup, k1lst_eq, ev_lst, k1mlst_eq, ev_mlst, k1mdic_eq, ev_mdic, ev_call, k1blt_eq, ev_blt, k2meth_eq, k1meth_eq, ev_meth, k1make_eq, ev_make, k2make_ok, k2make_exc, k1fld_eq, ev_fld, k1isi_eq, ev_isi, k2bm_eq, k1bm_eq, ev_bm, k3cut_eq, k2cuti_eq, k2cut_eq, k1cut_eq, ev_cut, kElt_f, kLst_eq, kLcB_some, kLcT_eq, kLc_eq, ev_lc, kIfF_eq, kLcIfB_some, kLcIfT_eq, kLcIf_eq, ev_lcIf, k2es_eq, k1es_eq, es_nil, es_cons, kSeq_eq, it_seq, kRange_eq, it_range, k3rangeS_eq, k2rangeS_eq, k1rangeS_eq, it_rangeS, kEnum_lst, kEnum_scr, it_enum, kZip_lst, k1zip_eq, it_zip, kSet_eq, ex_set, kNx_eq, kUnp_f, ex_unp, k2par_eq, k1par_eq, ex_par, k2app_eq, k1app_eq, ex_app, kIf_b, ex_ifs, kRt_eq, ex_ret, kEx_eq, ex_ex, ex_raise, ex_pass, kTry_exc, kTry_nx, kTry_rt, ex_try, kFors_eq, ex_fors, ex_whl, k3stx_eq, kFz_f, k2stx_eq, k1stx_eq, ex_setIx, k2stf_eq, k1stf_eq, ex_setFld, bk_nil, bk_cons, env0, leave_rt, leave_exc, cmpS, cmpop, binop, intsOf, g_true, allF, bindT, wipeE, okd_int, FV.toInt?, d_halves, encT_node, isiS, isiF, Told.left, Told.right, ixS, atIx, l1, l2]
theorem isWhole_ok (h_is_whole : P 1 = some d_is_whole) (W n : Nat) (i : Int) (st : Store) : run sub W P (n + 1) 1 [.f (.int i)] st = .ok (.f (.bl true)) st := by
  rw [run_succ (d := d_is_whole) h_is_whole rfl]
  simp [bind_ok, bind_exc, fr_ok, fr_exc, frI_ok, frI_exc, tst_ok, tst_exc, of_some, s_ok, s_exc, sb_nx, sb_rt, sb_exc, so_some, g_true, kGet_some, ev_v, ev_k, k2bin_eq, k1bin_eq, ev_bin, k2cmp_eq, k1cmp_eq, ev_cmp, k2ix_eq, k1ix_eq, ev_ix, k2dget_eq, k1dget_eq, ev_dget, k2din_eq, k1din_eq, ev_din, k2dnot_eq, k1dnot_eq, ev_dnot, k2cutTo_eq, k1cutTo_eq, ev_cutTo, k2cutFrom_eq, k1cutFrom_eq, ev_cutFrom, k1and_eq, ev_and, k1or_eq, ev_or, k1not_eq, ev_not, k1neg_eq, ev_neg, k1ite_eq, ev_ite, k4chain_eq, k3chain_eq, k2chain_eq, k1chain_eq, ev_chain, k1tup_eq, ev_tup, k1lst_eq, ev_lst, k1mlst_eq, ev_mlst, k1mdic_eq, ev_mdic, ev_call, k1blt_eq, ev_blt, k2meth_eq, k1meth_eq, ev_meth, k1make_eq, ev_make, k2make_ok, k2make_exc, k1fld_eq, ev_fld, k1isi_eq, ev_isi, k2bm_eq, k1bm_eq, ev_bm, k3cut_eq, k2cuti_eq, k2cut_eq, k1cut_eq, ev_cut, kElt_f, kLst_eq, kLcB_some, kLcT_eq, kLc_eq, ev_lc, kIfF_eq, kLcIfB_some, kLcIfT_eq, kLcIf_eq, ev_lcIf, k2es_eq, k1es_eq, es_nil, es_cons, kSeq_eq, it_seq, kRange_eq, it_range, k3rangeS_eq, k2rangeS_eq, k1rangeS_eq, it_rangeS, kEnum_lst, kEnum_scr, it_enum, kZip_lst, k1zip_eq, it_zip, kSet_eq, ex_set, kNx_eq, kUnp_f, ex_unp, k2par_eq, k1par_eq, ex_par, k2app_eq, k1app_eq, ex_app, kIf_b, ex_ifs, kRt_eq, ex_ret, kEx_eq, ex_ex, ex_raise, ex_pass, kTry_exc, kTry_nx, kTry_rt, ex_try, kFors_eq, ex_fors, ex_whl, k3stx_eq, kFz_f, k2stx_eq, k1stx_eq, ex_setIx, k2stf_eq, k1stf_eq, ex_setFld, bk_nil, bk_cons, env0, leave_rt, leave_exc, cmpS, cmpop, binop, intsOf, g_true, allF, bindT, wipeE, okd_int, FV.toInt?, d_is_whole, isiS, isiF]
theorem isNumber_ok (h_is_number : P 20 = some d_is_number) (h_is_whole : P 1 = some d_is_whole) (W n : Nat) (i : Int) (st : Store) : run sub W P (n + 2) 20 [.f (.int i)] st = .ok (.f (.bl (decide (0 ≤ i)))) st := by
  rw [run_succ (d := d_is_number) h_is_number rfl]
  have w := fun st => isWhole_ok (sub := sub) h_is_whole W n i st
  simp [bind_ok, bind_exc, fr_ok, fr_exc, frI_ok, frI_exc, tst_ok, tst_exc, of_some, s_ok, s_exc, sb_nx, sb_rt, sb_exc, so_some, g_true, kGet_some, ev_v, ev_k, k2bin_eq, k1bin_eq, ev_bin, k2cmp_eq, k1cmp_eq, ev_cmp, k2ix_eq, k1ix_eq, ev_ix, k2dget_eq, k1dget_eq, ev_dget, k2din_eq, k1din_eq, ev_din, k2dnot_eq, k1dnot_eq, ev_dnot, k2cutTo_eq, k1cutTo_eq, ev_cutTo, k2cutFrom_eq, k1cutFrom_eq, ev_cutFrom, k1and_eq, ev_and, k1or_eq, ev_or, k1not_eq, ev_not, k1neg_eq, ev_neg, k1ite_eq, ev_ite, k4chain_eq, k3chain_eq, k2chain_eq, k1chain_eq, ev_chain, k1tup_eq, ev_tup, k1lst_eq, ev_lst, k1mlst_eq, ev_mlst, k1mdic_eq, ev_mdic, ev_call, k1blt_eq, ev_blt, k2meth_eq, k1meth_eq, ev_meth, k1make_eq, ev_make, k2make_ok, k2make_exc, k1fld_eq, ev_fld, k1isi_eq, ev_isi, k2bm_eq, k1bm_eq, ev_bm, k3cut_eq, k2cuti_eq, k2cut_eq, k1cut_eq, ev_cut, kElt_f, kLst_eq, kLcB_some, kLcT_eq, kLc_eq, ev_lc, kIfF_eq, kLcIfB_some, kLcIfT_eq, kLcIf_eq, ev_lcIf, k2es_eq, k1es_eq, es_nil, es_cons, kSeq_eq, it_seq, kRange_eq, it_range, k3rangeS_eq, k2rangeS_eq, k1rangeS_eq, it_rangeS, kEnum_lst, kEnum_scr, it_enum, kZip_lst, k1zip_eq, it_zip, kSet_eq, ex_set, kNx_eq, kUnp_f, ex_unp, k2par_eq, k1par_eq, ex_par, k2app_eq, k1app_eq, ex_app, kIf_b, ex_ifs, kRt_eq, ex_ret, kEx_eq, ex_ex, ex_raise, ex_pass, kTry_exc, kTry_nx, kTry_rt, ex_try, kFors_eq, ex_fors, ex_whl, k3stx_eq, kFz_f, k2stx_eq, k1stx_eq, ex_setIx, k2stf_eq, k1stf_eq, ex_setFld, bk_nil, bk_cons, env0, leave_rt, leave_exc, cmpS, cmpop, binop, intsOf, g_true, allF, bindT, wipeE, okd_int, FV.toInt?, d_is_number, w]
theorem isTold_ok (h_is_told : P 19 = some d_is_told) (h_is_number : P 20 = some d_is_number) (h_is_whole : P 1 = some d_is_whole) (W : Nat) : ∀ (n : Nat) (t : Told) (st : Store), t.depth + 2 < n → run sub W P n 19 [.f (encT t)] st = .ok (.f (.bl t.nn)) st
  | 0, _, _, h => absurd h (Nat.not_lt_zero _)
  | n + 1, .num i, st, h => by
    obtain ⟨m, rfl⟩ : ∃ m, n = m + 2 := ⟨n - 2, by simp only [Told.depth] at h; omega⟩
    rw [run_succ (d := d_is_told) h_is_told rfl]
    have w := fun st => isNumber_ok (sub := sub) h_is_number h_is_whole W m i st
    simp [bind_ok, bind_exc, fr_ok, fr_exc, frI_ok, frI_exc, tst_ok, tst_exc, of_some, s_ok, s_exc, sb_nx, sb_rt, sb_exc, so_some, g_true, kGet_some, ev_v, ev_k, k2bin_eq, k1bin_eq, ev_bin, k2cmp_eq, k1cmp_eq, ev_cmp, k2ix_eq, k1ix_eq, ev_ix, k2dget_eq, k1dget_eq, ev_dget, k2din_eq, k1din_eq, ev_din, k2dnot_eq, k1dnot_eq, ev_dnot, k2cutTo_eq, k1cutTo_eq, ev_cutTo, k2cutFrom_eq, k1cutFrom_eq, ev_cutFrom, k1and_eq, ev_and, k1or_eq, ev_or, k1not_eq, ev_not, k1neg_eq, ev_neg, k1ite_eq, ev_ite, k4chain_eq, k3chain_eq, k2chain_eq, k1chain_eq, ev_chain, k1tup_eq, ev_tup, k1lst_eq, ev_lst, k1mlst_eq, ev_mlst, k1mdic_eq, ev_mdic, ev_call, k1blt_eq, ev_blt, k2meth_eq, k1meth_eq, ev_meth, k1make_eq, ev_make, k2make_ok, k2make_exc, k1fld_eq, ev_fld, k1isi_eq, ev_isi, k2bm_eq, k1bm_eq, ev_bm, k3cut_eq, k2cuti_eq, k2cut_eq, k1cut_eq, ev_cut, kElt_f, kLst_eq, kLcB_some, kLcT_eq, kLc_eq, ev_lc, kIfF_eq, kLcIfB_some, kLcIfT_eq, kLcIf_eq, ev_lcIf, k2es_eq, k1es_eq, es_nil, es_cons, kSeq_eq, it_seq, kRange_eq, it_range, k3rangeS_eq, k2rangeS_eq, k1rangeS_eq, it_rangeS, kEnum_lst, kEnum_scr, it_enum, kZip_lst, k1zip_eq, it_zip, kSet_eq, ex_set, kNx_eq, kUnp_f, ex_unp, k2par_eq, k1par_eq, ex_par, k2app_eq, k1app_eq, ex_app, kIf_b, ex_ifs, kRt_eq, ex_ret, kEx_eq, ex_ex, ex_raise, ex_pass, kTry_exc, kTry_nx, kTry_rt, ex_try, kFors_eq, ex_fors, ex_whl, k3stx_eq, kFz_f, k2stx_eq, k1stx_eq, ex_setIx, k2stf_eq, k1stf_eq, ex_setFld, bk_nil, bk_cons, env0, leave_rt, leave_exc, cmpS, cmpop, binop, intsOf, g_true, allF, bindT, wipeE, okd_int, FV.toInt?, d_is_told, encT, isiS, isiF, Told.nn, w]
  | n + 1, .node a l r, st, h => by
    simp only [Told.depth] at h
    obtain ⟨m, rfl⟩ : ∃ m, n = m + 2 := ⟨n - 2, by omega⟩
    have i1 := isTold_ok h_is_told h_is_number h_is_whole W (m + 2) l st (by omega)
    have i2 := isTold_ok h_is_told h_is_number h_is_whole W (m + 2) r st (by omega)
    have w := fun st => isNumber_ok (sub := sub) h_is_number h_is_whole W m a st
    rw [run_succ (d := d_is_told) h_is_told rfl]
    by_cases ha : 0 ≤ a
    · cases hl : l.nn <;> rw [hl] at i1 <;> simp [bind_ok, bind_exc, fr_ok, fr_exc, frI_ok, frI_exc, tst_ok, tst_exc, of_some, s_ok, s_exc, sb_nx, sb_rt, sb_exc, so_some, g_true, kGet_some, ev_v, ev_k, k2bin_eq, k1bin_eq, ev_bin, k2cmp_eq, k1cmp_eq, ev_cmp, k2ix_eq, k1ix_eq, ev_ix, k2dget_eq, k1dget_eq, ev_dget, k2din_eq, k1din_eq, ev_din, k2dnot_eq, k1dnot_eq, ev_dnot, k2cutTo_eq, k1cutTo_eq, ev_cutTo, k2cutFrom_eq, k1cutFrom_eq, ev_cutFrom, k1and_eq, ev_and, k1or_eq, ev_or, k1not_eq, ev_not, k1neg_eq, ev_neg, k1ite_eq, ev_ite, k4chain_eq, k3chain_eq, k2chain_eq, k1chain_eq, ev_chain, k1tup_eq, ev_tup, k1lst_eq, ev_lst, k1mlst_eq, ev_mlst, k1mdic_eq, ev_mdic, ev_call, k1blt_eq, ev_blt, k2meth_eq, k1meth_eq, ev_meth, k1make_eq, ev_make, k2make_ok, k2make_exc, k1fld_eq, ev_fld, k1isi_eq, ev_isi, k2bm_eq, k1bm_eq, ev_bm, k3cut_eq, k2cuti_eq, k2cut_eq, k1cut_eq, ev_cut, kElt_f, kLst_eq, kLcB_some, kLcT_eq, kLc_eq, ev_lc, kIfF_eq, kLcIfB_some, kLcIfT_eq, kLcIf_eq, ev_lcIf, k2es_eq, k1es_eq, es_nil, es_cons, kSeq_eq, it_seq, kRange_eq, it_range, k3rangeS_eq, k2rangeS_eq, k1rangeS_eq, it_rangeS, kEnum_lst, kEnum_scr, it_enum, kZip_lst, k1zip_eq, it_zip, kSet_eq, ex_set, kNx_eq, kUnp_f, ex_unp, k2par_eq, k1par_eq, ex_par, k2app_eq, k1app_eq, ex_app, kIf_b, ex_ifs, kRt_eq, ex_ret, kEx_eq, ex_ex, ex_raise, ex_pass, kTry_exc, kTry_nx, kTry_rt, ex_try, kFors_eq, ex_fors, ex_whl, k3stx_eq, kFz_f, k2stx_eq, k1stx_eq, ex_setIx, k2stf_eq, k1stf_eq, ex_setFld, bk_nil, bk_cons, env0, leave_rt, leave_exc, cmpS, cmpop, binop, intsOf, g_true, allF, bindT, wipeE, okd_int, FV.toInt?, d_is_told, encT, isiS, isiF, Told.nn, w, ixS, atIx, i1, i2, bltS, bltF, FV.eqv, ha, hl]
    · simp [bind_ok, bind_exc, fr_ok, fr_exc, frI_ok, frI_exc, tst_ok, tst_exc, of_some, s_ok, s_exc, sb_nx, sb_rt, sb_exc, so_some, g_true, kGet_some, ev_v, ev_k, k2bin_eq, k1bin_eq, ev_bin, k2cmp_eq, k1cmp_eq, ev_cmp, k2ix_eq, k1ix_eq, ev_ix, k2dget_eq, k1dget_eq, ev_dget, k2din_eq, k1din_eq, ev_din, k2dnot_eq, k1dnot_eq, ev_dnot, k2cutTo_eq, k1cutTo_eq, ev_cutTo, k2cutFrom_eq, k1cutFrom_eq, ev_cutFrom, k1and_eq, ev_and, k1or_eq, ev_or, k1not_eq, ev_not, k1neg_eq, ev_neg, k1ite_eq, ev_ite, k4chain_eq, k3chain_eq, k2chain_eq, k1chain_eq, ev_chain, k1tup_eq, ev_tup, k1lst_eq, ev_lst, k1mlst_eq, ev_mlst, k1mdic_eq, ev_mdic, ev_call, k1blt_eq, ev_blt, k2meth_eq, k1meth_eq, ev_meth, k1make_eq, ev_make, k2make_ok, k2make_exc, k1fld_eq, ev_fld, k1isi_eq, ev_isi, k2bm_eq, k1bm_eq, ev_bm, k3cut_eq, k2cuti_eq, k2cut_eq, k1cut_eq, ev_cut, kElt_f, kLst_eq, kLcB_some, kLcT_eq, kLc_eq, ev_lc, kIfF_eq, kLcIfB_some, kLcIfT_eq, kLcIf_eq, ev_lcIf, k2es_eq, k1es_eq, es_nil, es_cons, kSeq_eq, it_seq, kRange_eq, it_range, k3rangeS_eq, k2rangeS_eq, k1rangeS_eq, it_rangeS, kEnum_lst, kEnum_scr, it_enum, kZip_lst, k1zip_eq, it_zip, kSet_eq, ex_set, kNx_eq, kUnp_f, ex_unp, k2par_eq, k1par_eq, ex_par, k2app_eq, k1app_eq, ex_app, kIf_b, ex_ifs, kRt_eq, ex_ret, kEx_eq, ex_ex, ex_raise, ex_pass, kTry_exc, kTry_nx, kTry_rt, ex_try, kFors_eq, ex_fors, ex_whl, k3stx_eq, kFz_f, k2stx_eq, k1stx_eq, ex_setIx, k2stf_eq, k1stf_eq, ex_setFld, bk_nil, bk_cons, env0, leave_rt, leave_exc, cmpS, cmpop, binop, intsOf, g_true, allF, bindT, wipeE, okd_int, FV.toInt?, d_is_told, encT, isiS, isiF, Told.nn, w, ixS, atIx, bltS, bltF, FV.eqv, ha]
theorem leastTold_ok (h_least_told : P 25 = some d_least_told) (h_spread : P 24 = some d_spread) (h_lifted : P 22 = some d_lifted) (h_base : P 23 = some d_base) (W : Nat) : ∀ (n : Nat) (t : Told) (st : Store), t.depth + 2 < n → t.depth ≤ 60 → run sub W P n 25 [.f (encT t)] st = .ok (.f (encT t.least)) st
  | 0, _, _, h, _ => absurd h (Nat.not_lt_zero _)
  | n + 1, .num i, st, h, _ => by
    rw [run_succ (d := d_least_told) h_least_told rfl]
    simp [bind_ok, bind_exc, fr_ok, fr_exc, frI_ok, frI_exc, tst_ok, tst_exc, of_some, s_ok, s_exc, sb_nx, sb_rt, sb_exc, so_some, g_true, kGet_some, ev_v, ev_k, k2bin_eq, k1bin_eq, ev_bin, k2cmp_eq, k1cmp_eq, ev_cmp, k2ix_eq, k1ix_eq, ev_ix, k2dget_eq, k1dget_eq, ev_dget, k2din_eq, k1din_eq, ev_din, k2dnot_eq, k1dnot_eq, ev_dnot, k2cutTo_eq, k1cutTo_eq, ev_cutTo, k2cutFrom_eq, k1cutFrom_eq, ev_cutFrom, k1and_eq, ev_and, k1or_eq, ev_or, k1not_eq, ev_not, k1neg_eq, ev_neg, k1ite_eq, ev_ite, k4chain_eq, k3chain_eq, k2chain_eq, k1chain_eq, ev_chain, k1tup_eq, ev_tup, k1lst_eq, ev_lst, k1mlst_eq, ev_mlst, k1mdic_eq, ev_mdic, ev_call, k1blt_eq, ev_blt, k2meth_eq, k1meth_eq, ev_meth, k1make_eq, ev_make, k2make_ok, k2make_exc, k1fld_eq, ev_fld, k1isi_eq, ev_isi, k2bm_eq, k1bm_eq, ev_bm, k3cut_eq, k2cuti_eq, k2cut_eq, k1cut_eq, ev_cut, kElt_f, kLst_eq, kLcB_some, kLcT_eq, kLc_eq, ev_lc, kIfF_eq, kLcIfB_some, kLcIfT_eq, kLcIf_eq, ev_lcIf, k2es_eq, k1es_eq, es_nil, es_cons, kSeq_eq, it_seq, kRange_eq, it_range, k3rangeS_eq, k2rangeS_eq, k1rangeS_eq, it_rangeS, kEnum_lst, kEnum_scr, it_enum, kZip_lst, k1zip_eq, it_zip, kSet_eq, ex_set, kNx_eq, kUnp_f, ex_unp, k2par_eq, k1par_eq, ex_par, k2app_eq, k1app_eq, ex_app, kIf_b, ex_ifs, kRt_eq, ex_ret, kEx_eq, ex_ex, ex_raise, ex_pass, kTry_exc, kTry_nx, kTry_rt, ex_try, kFors_eq, ex_fors, ex_whl, k3stx_eq, kFz_f, k2stx_eq, k1stx_eq, ex_setIx, k2stf_eq, k1stf_eq, ex_setFld, bk_nil, bk_cons, env0, leave_rt, leave_exc, cmpS, cmpop, binop, intsOf, g_true, allF, bindT, wipeE, okd_int, FV.toInt?, d_least_told, encT, isiS, isiF, Told.least]
  | n + 1, .node a l r, st, h, h2 => by
    simp only [Told.depth] at h h2
    obtain ⟨m, rfl⟩ : ∃ m, n = m + 2 := ⟨n - 2, by omega⟩
    have i1 := leastTold_ok h_least_told h_spread h_lifted h_base W (m + 2) l st (by omega) (by omega)
    have i2 := leastTold_ok h_least_told h_spread h_lifted h_base W (m + 2) r st (by omega) (by omega)
    have d1 := Told.least_depth l
    have d2 := Told.least_depth r
    have s := spread_ok (sub := sub) h_spread h_lifted h_base W m a l.least r.least st (by omega) (by omega)
    rw [run_succ (d := d_least_told) h_least_told rfl]
    simp [bind_ok, bind_exc, fr_ok, fr_exc, frI_ok, frI_exc, tst_ok, tst_exc, of_some, s_ok, s_exc, sb_nx, sb_rt, sb_exc, so_some, g_true, kGet_some, ev_v, ev_k, k2bin_eq, k1bin_eq, ev_bin, k2cmp_eq, k1cmp_eq, ev_cmp, k2ix_eq, k1ix_eq, ev_ix, k2dget_eq, k1dget_eq, ev_dget, k2din_eq, k1din_eq, ev_din, k2dnot_eq, k1dnot_eq, ev_dnot, k2cutTo_eq, k1cutTo_eq, ev_cutTo, k2cutFrom_eq, k1cutFrom_eq, ev_cutFrom, k1and_eq, ev_and, k1or_eq, ev_or, k1not_eq, ev_not, k1neg_eq, ev_neg, k1ite_eq, ev_ite, k4chain_eq, k3chain_eq, k2chain_eq, k1chain_eq, ev_chain, k1tup_eq, ev_tup, k1lst_eq, ev_lst, k1mlst_eq, ev_mlst, k1mdic_eq, ev_mdic, ev_call, k1blt_eq, ev_blt, k2meth_eq, k1meth_eq, ev_meth, k1make_eq, ev_make, k2make_ok, k2make_exc, k1fld_eq, ev_fld, k1isi_eq, ev_isi, k2bm_eq, k1bm_eq, ev_bm, k3cut_eq, k2cuti_eq, k2cut_eq, k1cut_eq, ev_cut, kElt_f, kLst_eq, kLcB_some, kLcT_eq, kLc_eq, ev_lc, kIfF_eq, kLcIfB_some, kLcIfT_eq, kLcIf_eq, ev_lcIf, k2es_eq, k1es_eq, es_nil, es_cons, kSeq_eq, it_seq, kRange_eq, it_range, k3rangeS_eq, k2rangeS_eq, k1rangeS_eq, it_rangeS, kEnum_lst, kEnum_scr, it_enum, kZip_lst, k1zip_eq, it_zip, kSet_eq, ex_set, kNx_eq, kUnp_f, ex_unp, k2par_eq, k1par_eq, ex_par, k2app_eq, k1app_eq, ex_app, kIf_b, ex_ifs, kRt_eq, ex_ret, kEx_eq, ex_ex, ex_raise, ex_pass, kTry_exc, kTry_nx, kTry_rt, ex_try, kFors_eq, ex_fors, ex_whl, k3stx_eq, kFz_f, k2stx_eq, k1stx_eq, ex_setIx, k2stf_eq, k1stf_eq, ex_setFld, bk_nil, bk_cons, env0, leave_rt, leave_exc, cmpS, cmpop, binop, intsOf, g_true, allF, bindT, wipeE, okd_int, FV.toInt?, d_least_told, encT_node, isiS, isiF, Told.least, ixS, atIx, i1, i2, s]
theorem isLeastTold_ok (h_is_least_told : P 21 = some d_is_least_told) (h_is_told : P 19 = some d_is_told) (h_is_number : P 20 = some d_is_number) (h_is_whole : P 1 = some d_is_whole) (h_least_told : P 25 = some d_least_told) (h_spread : P 24 = some d_spread) (h_lifted : P 22 = some d_lifted) (h_base : P 23 = some d_base) (W n : Nat) (t : Told) (st : Store) (h : t.depth + 2 < n) (h2 : t.depth ≤ 60) : run sub W P (n + 1) 21 [.f (encT t)] st = .ok (.f (.bl (t.nn && decide (t.least = t)))) st := by
  have i1 := isTold_ok (sub := sub) h_is_told h_is_number h_is_whole W n t st h
  have i2 := leastTold_ok (sub := sub) h_least_told h_spread h_lifted h_base W n t st h h2
  have ok1 := encT_okd h2
  have ok2 : (encT t.least).okd = true := encT_okd (by have := Told.least_depth t; omega)
  rw [run_succ (d := d_is_least_told) h_is_least_told rfl]
  cases hn : t.nn <;> rw [hn] at i1 <;> simp [bind_ok, bind_exc, fr_ok, fr_exc, frI_ok, frI_exc, tst_ok, tst_exc, of_some, s_ok, s_exc, sb_nx, sb_rt, sb_exc, so_some, g_true, kGet_some, ev_v, ev_k, k2bin_eq, k1bin_eq, ev_bin, k2cmp_eq, k1cmp_eq, ev_cmp, k2ix_eq, k1ix_eq, ev_ix, k2dget_eq, k1dget_eq, ev_dget, k2din_eq, k1din_eq, ev_din, k2dnot_eq, k1dnot_eq, ev_dnot, k2cutTo_eq, k1cutTo_eq, ev_cutTo, k2cutFrom_eq, k1cutFrom_eq, ev_cutFrom, k1and_eq, ev_and, k1or_eq, ev_or, k1not_eq, ev_not, k1neg_eq, ev_neg, k1ite_eq, ev_ite, k4chain_eq, k3chain_eq, k2chain_eq, k1chain_eq, ev_chain, k1tup_eq, ev_tup, k1lst_eq, ev_lst, k1mlst_eq, ev_mlst, k1mdic_eq, ev_mdic, ev_call, k1blt_eq, ev_blt, k2meth_eq, k1meth_eq, ev_meth, k1make_eq, ev_make, k2make_ok, k2make_exc, k1fld_eq, ev_fld, k1isi_eq, ev_isi, k2bm_eq, k1bm_eq, ev_bm, k3cut_eq, k2cuti_eq, k2cut_eq, k1cut_eq, ev_cut, kElt_f, kLst_eq, kLcB_some, kLcT_eq, kLc_eq, ev_lc, kIfF_eq, kLcIfB_some, kLcIfT_eq, kLcIf_eq, ev_lcIf, k2es_eq, k1es_eq, es_nil, es_cons, kSeq_eq, it_seq, kRange_eq, it_range, k3rangeS_eq, k2rangeS_eq, k1rangeS_eq, it_rangeS, kEnum_lst, kEnum_scr, it_enum, kZip_lst, k1zip_eq, it_zip, kSet_eq, ex_set, kNx_eq, kUnp_f, ex_unp, k2par_eq, k1par_eq, ex_par, k2app_eq, k1app_eq, ex_app, kIf_b, ex_ifs, kRt_eq, ex_ret, kEx_eq, ex_ex, ex_raise, ex_pass, kTry_exc, kTry_nx, kTry_rt, ex_try, kFors_eq, ex_fors, ex_whl, k3stx_eq, kFz_f, k2stx_eq, k1stx_eq, ex_setIx, k2stf_eq, k1stf_eq, ex_setFld, bk_nil, bk_cons, env0, leave_rt, leave_exc, cmpS, cmpop, binop, intsOf, g_true, allF, bindT, wipeE, okd_int, FV.toInt?, d_is_least_told, i1, i2, ok1, ok2, encT_eqv]
end Pl
end MP

namespace MP
namespace Pl
open Fk
/-! deeds: what the defs give -/
variable {sub : Nat → Nat → Option Bool} {P : Nat → Option Def}
theorem maxI (i j : Int) : bltF .max [.int i, .int j] = some (.int (max i j)) := rfl
theorem minI (i j : Int) : bltF .min [.int i, .int j] = some (.int (min i j)) := rfl
theorem filled_ok (h_filled : P 36 = some d_filled) (h_told_greatest : P 27 = some d_told_greatest) (h_told_least : P 26 = some d_told_least) (h_halves : P 32 = some d_halves) (h_spread : P 24 = some d_spread) (h_lifted : P 22 = some d_lifted) (h_base : P 23 = some d_base) (W : Nat) : ∀ (n : Nat) (o : Own) (t : Told) (st : Store), max o.depth t.depth + 3 < n → o.depth ≤ 60 → t.depth ≤ 60 → run sub W P n 36 [.f (encO o), .f (encT t)] st = .ok (.f (encT (Told.fill o t))) st
  | 0, _, _, _, h, _, _ => absurd h (Nat.not_lt_zero _)
  | n + 1, .leaf false, t, st, h, h1, h2 => by
    rw [run_succ (d := d_filled) h_filled rfl]
    have e : (encO (.leaf false)).eqv (.int 0) = true := rfl
    simp [bind_ok, bind_exc, fr_ok, fr_exc, frI_ok, frI_exc, tst_ok, tst_exc, of_some, s_ok, s_exc, sb_nx, sb_rt, sb_exc, so_some, g_true, kGet_some, ev_v, ev_k, k2bin_eq, k1bin_eq, ev_bin, k2cmp_eq, k1cmp_eq, ev_cmp, k2ix_eq, k1ix_eq, ev_ix, k2dget_eq, k1dget_eq, ev_dget, k2din_eq, k1din_eq, ev_din, k2dnot_eq, k1dnot_eq, ev_dnot, k2cutTo_eq, k1cutTo_eq, ev_cutTo, k2cutFrom_eq, k1cutFrom_eq, ev_cutFrom, k1and_eq, ev_and, k1or_eq, ev_or, k1not_eq, ev_not, k1neg_eq, ev_neg, k1ite_eq, ev_ite, k4chain_eq, k3chain_eq, k2chain_eq, k1chain_eq, ev_chain, k1tup_eq, ev_tup, k1lst_eq, ev_lst, k1mlst_eq, ev_mlst, k1mdic_eq, ev_mdic, ev_call, k1blt_eq, ev_blt, k2meth_eq, k1meth_eq, ev_meth, k1make_eq, ev_make, k2make_ok, k2make_exc, k1fld_eq, ev_fld, k1isi_eq, ev_isi, k2bm_eq, k1bm_eq, ev_bm, k3cut_eq, k2cuti_eq, k2cut_eq, k1cut_eq, ev_cut, kElt_f, kLst_eq, kLcB_some, kLcT_eq, kLc_eq, ev_lc, kIfF_eq, kLcIfB_some, kLcIfT_eq, kLcIf_eq, ev_lcIf, k2es_eq, k1es_eq, es_nil, es_cons, kSeq_eq, it_seq, kRange_eq, it_range, k3rangeS_eq, k2rangeS_eq, k1rangeS_eq, it_rangeS, kEnum_lst, kEnum_scr, it_enum, kZip_lst, k1zip_eq, it_zip, kSet_eq, ex_set, kNx_eq, kUnp_f, ex_unp, k2par_eq, k1par_eq, ex_par, k2app_eq, k1app_eq, ex_app, kIf_b, ex_ifs, kRt_eq, ex_ret, kEx_eq, ex_ex, ex_raise, ex_pass, kTry_exc, kTry_nx, kTry_rt, ex_try, kFors_eq, ex_fors, ex_whl, k3stx_eq, kFz_f, k2stx_eq, k1stx_eq, ex_setIx, k2stf_eq, k1stf_eq, ex_setFld, bk_nil, bk_cons, env0, leave_rt, leave_exc, cmpS, cmpop, binop, intsOf, g_true, allF, bindT, wipeE, okd_int, FV.toInt?, d_filled, encO_okd h1, e, Told.fill]
  | n + 1, .leaf true, t, st, h, h1, h2 => by
    rw [run_succ (d := d_filled) h_filled rfl]
    have e : (encO (.leaf true)).eqv (.int 0) = false := rfl
    have e1 : (encO (.leaf true)).eqv (.int 1) = true := rfl
    cases t with
    | num i => simp [bind_ok, bind_exc, fr_ok, fr_exc, frI_ok, frI_exc, tst_ok, tst_exc, of_some, s_ok, s_exc, sb_nx, sb_rt, sb_exc, so_some, g_true, kGet_some, ev_v, ev_k, k2bin_eq, k1bin_eq, ev_bin, k2cmp_eq, k1cmp_eq, ev_cmp, k2ix_eq, k1ix_eq, ev_ix, k2dget_eq, k1dget_eq, ev_dget, k2din_eq, k1din_eq, ev_din, k2dnot_eq, k1dnot_eq, ev_dnot, k2cutTo_eq, k1cutTo_eq, ev_cutTo, k2cutFrom_eq, k1cutFrom_eq, ev_cutFrom, k1and_eq, ev_and, k1or_eq, ev_or, k1not_eq, ev_not, k1neg_eq, ev_neg, k1ite_eq, ev_ite, k4chain_eq, k3chain_eq, k2chain_eq, k1chain_eq, ev_chain, k1tup_eq, ev_tup, k1lst_eq, ev_lst, k1mlst_eq, ev_mlst, k1mdic_eq, ev_mdic, ev_call, k1blt_eq, ev_blt, k2meth_eq, k1meth_eq, ev_meth, k1make_eq, ev_make, k2make_ok, k2make_exc, k1fld_eq, ev_fld, k1isi_eq, ev_isi, k2bm_eq, k1bm_eq, ev_bm, k3cut_eq, k2cuti_eq, k2cut_eq, k1cut_eq, ev_cut, kElt_f, kLst_eq, kLcB_some, kLcT_eq, kLc_eq, ev_lc, kIfF_eq, kLcIfB_some, kLcIfT_eq, kLcIf_eq, ev_lcIf, k2es_eq, k1es_eq, es_nil, es_cons, kSeq_eq, it_seq, kRange_eq, it_range, k3rangeS_eq, k2rangeS_eq, k1rangeS_eq, it_rangeS, kEnum_lst, kEnum_scr, it_enum, kZip_lst, k1zip_eq, it_zip, kSet_eq, ex_set, kNx_eq, kUnp_f, ex_unp, k2par_eq, k1par_eq, ex_par, k2app_eq, k1app_eq, ex_app, kIf_b, ex_ifs, kRt_eq, ex_ret, kEx_eq, ex_ex, ex_raise, ex_pass, kTry_exc, kTry_nx, kTry_rt, ex_try, kFors_eq, ex_fors, ex_whl, k3stx_eq, kFz_f, k2stx_eq, k1stx_eq, ex_setIx, k2stf_eq, k1stf_eq, ex_setFld, bk_nil, bk_cons, env0, leave_rt, leave_exc, cmpS, cmpop, binop, intsOf, g_true, allF, bindT, wipeE, okd_int, FV.toInt?, d_filled, encO_okd h1, e, e1, Told.fill, encT_isi, Told.isNode, Told.greatest]
    | node a l r =>
      simp only [Own.depth] at h
      have g := fun st => toldGreatest_ok (sub := sub) h_told_greatest W n (.node a l r) st (by omega)
      simp [bind_ok, bind_exc, fr_ok, fr_exc, frI_ok, frI_exc, tst_ok, tst_exc, of_some, s_ok, s_exc, sb_nx, sb_rt, sb_exc, so_some, g_true, kGet_some, ev_v, ev_k, k2bin_eq, k1bin_eq, ev_bin, k2cmp_eq, k1cmp_eq, ev_cmp, k2ix_eq, k1ix_eq, ev_ix, k2dget_eq, k1dget_eq, ev_dget, k2din_eq, k1din_eq, ev_din, k2dnot_eq, k1dnot_eq, ev_dnot, k2cutTo_eq, k1cutTo_eq, ev_cutTo, k2cutFrom_eq, k1cutFrom_eq, ev_cutFrom, k1and_eq, ev_and, k1or_eq, ev_or, k1not_eq, ev_not, k1neg_eq, ev_neg, k1ite_eq, ev_ite, k4chain_eq, k3chain_eq, k2chain_eq, k1chain_eq, ev_chain, k1tup_eq, ev_tup, k1lst_eq, ev_lst, k1mlst_eq, ev_mlst, k1mdic_eq, ev_mdic, ev_call, k1blt_eq, ev_blt, k2meth_eq, k1meth_eq, ev_meth, k1make_eq, ev_make, k2make_ok, k2make_exc, k1fld_eq, ev_fld, k1isi_eq, ev_isi, k2bm_eq, k1bm_eq, ev_bm, k3cut_eq, k2cuti_eq, k2cut_eq, k1cut_eq, ev_cut, kElt_f, kLst_eq, kLcB_some, kLcT_eq, kLc_eq, ev_lc, kIfF_eq, kLcIfB_some, kLcIfT_eq, kLcIf_eq, ev_lcIf, k2es_eq, k1es_eq, es_nil, es_cons, kSeq_eq, it_seq, kRange_eq, it_range, k3rangeS_eq, k2rangeS_eq, k1rangeS_eq, it_rangeS, kEnum_lst, kEnum_scr, it_enum, kZip_lst, k1zip_eq, it_zip, kSet_eq, ex_set, kNx_eq, kUnp_f, ex_unp, k2par_eq, k1par_eq, ex_par, k2app_eq, k1app_eq, ex_app, kIf_b, ex_ifs, kRt_eq, ex_ret, kEx_eq, ex_ex, ex_raise, ex_pass, kTry_exc, kTry_nx, kTry_rt, ex_try, kFors_eq, ex_fors, ex_whl, k3stx_eq, kFz_f, k2stx_eq, k1stx_eq, ex_setIx, k2stf_eq, k1stf_eq, ex_setFld, bk_nil, bk_cons, env0, leave_rt, leave_exc, cmpS, cmpop, binop, intsOf, g_true, allF, bindT, wipeE, okd_int, FV.toInt?, d_filled, encO_okd h1, e, e1, Told.fill, encT_isi, Told.isNode, g, encT_num]
  | n + 1, .node a b, .num i, st, h, h1, h2 => by
    rw [run_succ (d := d_filled) h_filled rfl]
    have e := eqv0 (.node a b)
    simp [bind_ok, bind_exc, fr_ok, fr_exc, frI_ok, frI_exc, tst_ok, tst_exc, of_some, s_ok, s_exc, sb_nx, sb_rt, sb_exc, so_some, g_true, kGet_some, ev_v, ev_k, k2bin_eq, k1bin_eq, ev_bin, k2cmp_eq, k1cmp_eq, ev_cmp, k2ix_eq, k1ix_eq, ev_ix, k2dget_eq, k1dget_eq, ev_dget, k2din_eq, k1din_eq, ev_din, k2dnot_eq, k1dnot_eq, ev_dnot, k2cutTo_eq, k1cutTo_eq, ev_cutTo, k2cutFrom_eq, k1cutFrom_eq, ev_cutFrom, k1and_eq, ev_and, k1or_eq, ev_or, k1not_eq, ev_not, k1neg_eq, ev_neg, k1ite_eq, ev_ite, k4chain_eq, k3chain_eq, k2chain_eq, k1chain_eq, ev_chain, k1tup_eq, ev_tup, k1lst_eq, ev_lst, k1mlst_eq, ev_mlst, k1mdic_eq, ev_mdic, ev_call, k1blt_eq, ev_blt, k2meth_eq, k1meth_eq, ev_meth, k1make_eq, ev_make, k2make_ok, k2make_exc, k1fld_eq, ev_fld, k1isi_eq, ev_isi, k2bm_eq, k1bm_eq, ev_bm, k3cut_eq, k2cuti_eq, k2cut_eq, k1cut_eq, ev_cut, kElt_f, kLst_eq, kLcB_some, kLcT_eq, kLc_eq, ev_lc, kIfF_eq, kLcIfB_some, kLcIfT_eq, kLcIf_eq, ev_lcIf, k2es_eq, k1es_eq, es_nil, es_cons, kSeq_eq, it_seq, kRange_eq, it_range, k3rangeS_eq, k2rangeS_eq, k1rangeS_eq, it_rangeS, kEnum_lst, kEnum_scr, it_enum, kZip_lst, k1zip_eq, it_zip, kSet_eq, ex_set, kNx_eq, kUnp_f, ex_unp, k2par_eq, k1par_eq, ex_par, k2app_eq, k1app_eq, ex_app, kIf_b, ex_ifs, kRt_eq, ex_ret, kEx_eq, ex_ex, ex_raise, ex_pass, kTry_exc, kTry_nx, kTry_rt, ex_try, kFors_eq, ex_fors, ex_whl, k3stx_eq, kFz_f, k2stx_eq, k1stx_eq, ex_setIx, k2stf_eq, k1stf_eq, ex_setFld, bk_nil, bk_cons, env0, leave_rt, leave_exc, cmpS, cmpop, binop, intsOf, g_true, allF, bindT, wipeE, okd_int, FV.toInt?, d_filled, encO_okd h1, e, Told.fill, encT_isi, Told.isNode]
  | n + 1, .node a b, .node m l r, st, h, h1, h2 => by
    rw [run_succ (d := d_filled) h_filled rfl]
    have ok := encO_okd h1
    have e0 := eqv0 (.node a b)
    have e1 := eqv1 (.node a b)
    have hi : isiS sub st (.f (encT (.node m l r))) .tuple = some true := rfl
    have dl := Told.left_depth (.node m l r)
    have dr := Told.right_depth (.node m l r)
    simp only [Own.depth] at h h1
    obtain ⟨k, rfl⟩ : ∃ k, n = k + 2 := ⟨n - 2, by omega⟩
    have hv := fun st => halves_ok (sub := sub) h_halves h_lifted W k (.node m l r) st
    have e : Told.fill (.node a b) (.node m l r) = if a = .leaf true then Told.spread 0 (.num (max (Told.node m l r).left.greatest (Told.fill b (Told.node m l r).right).base)) (Told.fill b (Told.node m l r).right)
      else if b = .leaf true then Told.spread 0 (Told.fill a (Told.node m l r).left) (.num (max (Told.node m l r).right.greatest (Told.fill a (Told.node m l r).left).base))
      else Told.spread 0 (Told.fill a (Told.node m l r).left) (Told.fill b (Told.node m l r).right) := by rw [Told.fill]
    rw [e]
    generalize (Told.node m l r).left = tl at *
    generalize (Told.node m l r).right = tr at *
    generalize Told.node m l r = t at *
    have i1 := fun st => filled_ok h_filled h_told_greatest h_told_least h_halves h_spread h_lifted h_base W (k + 2) a tl st (by omega) (by omega) (by omega)
    have i2 := fun st => filled_ok h_filled h_told_greatest h_told_least h_halves h_spread h_lifted h_base W (k + 2) b tr st (by omega) (by omega) (by omega)
    have f1 := Told.fill_depth a tl
    have f2 := Told.fill_depth b tr
    have g1 := fun st => toldGreatest_ok (sub := sub) h_told_greatest W (k + 2) tl st (by omega)
    have g2 := fun st => toldGreatest_ok (sub := sub) h_told_greatest W (k + 2) tr st (by omega)
    have b1 := fun st => toldLeast_ok (sub := sub) h_told_least h_base W k (Told.fill a tl) st
    have b2 := fun st => toldLeast_ok (sub := sub) h_told_least h_base W k (Told.fill b tr) st
    have oka : (encO a).okd = true := encO_okd (by omega)
    have okb : (encO b).okd = true := encO_okd (by omega)
    have ea := eqv1 a
    have eb := eqv1 b
    rw [encO_node] at ok e0 e1 ⊢
    by_cases c1 : a = .leaf true
    · rw [if_pos c1]
      rw [decide_eq_true c1] at ea
      have s := fun st => spread_ok (sub := sub) h_spread h_lifted h_base W k 0 (.num (max tl.greatest (Told.fill b tr).base)) (Told.fill b tr) st (Nat.zero_le _) (by omega)
      rw [encT_num] at s
      simp [bind_ok, bind_exc, fr_ok, fr_exc, frI_ok, frI_exc, tst_ok, tst_exc, of_some, s_ok, s_exc, sb_nx, sb_rt, sb_exc, so_some, g_true, kGet_some, ev_v, ev_k, k2bin_eq, k1bin_eq, ev_bin, k2cmp_eq, k1cmp_eq, ev_cmp, k2ix_eq, k1ix_eq, ev_ix, k2dget_eq, k1dget_eq, ev_dget, k2din_eq, k1din_eq, ev_din, k2dnot_eq, k1dnot_eq, ev_dnot, k2cutTo_eq, k1cutTo_eq, ev_cutTo, k2cutFrom_eq, k1cutFrom_eq, ev_cutFrom, k1and_eq, ev_and, k1or_eq, ev_or, k1not_eq, ev_not, k1neg_eq, ev_neg, k1ite_eq, ev_ite, k4chain_eq, k3chain_eq, k2chain_eq, k1chain_eq, ev_chain, k1tup_eq, ev_tup, k1lst_eq, ev_lst, k1mlst_eq, ev_mlst, k1mdic_eq, ev_mdic, ev_call, k1blt_eq, ev_blt, k2meth_eq, k1meth_eq, ev_meth, k1make_eq, ev_make, k2make_ok, k2make_exc, k1fld_eq, ev_fld, k1isi_eq, ev_isi, k2bm_eq, k1bm_eq, ev_bm, k3cut_eq, k2cuti_eq, k2cut_eq, k1cut_eq, ev_cut, kElt_f, kLst_eq, kLcB_some, kLcT_eq, kLc_eq, ev_lc, kIfF_eq, kLcIfB_some, kLcIfT_eq, kLcIf_eq, ev_lcIf, k2es_eq, k1es_eq, es_nil, es_cons, kSeq_eq, it_seq, kRange_eq, it_range, k3rangeS_eq, k2rangeS_eq, k1rangeS_eq, it_rangeS, kEnum_lst, kEnum_scr, it_enum, kZip_lst, k1zip_eq, it_zip, kSet_eq, ex_set, kNx_eq, kUnp_f, ex_unp, k2par_eq, k1par_eq, ex_par, k2app_eq, k1app_eq, ex_app, kIf_b, ex_ifs, kRt_eq, ex_ret, kEx_eq, ex_ex, ex_raise, ex_pass, kTry_exc, kTry_nx, kTry_rt, ex_try, kFors_eq, ex_fors, ex_whl, k3stx_eq, kFz_f, k2stx_eq, k1stx_eq, ex_setIx, k2stf_eq, k1stf_eq, ex_setFld, bk_nil, bk_cons, env0, leave_rt, leave_exc, cmpS, cmpop, binop, intsOf, g_true, allF, bindT, wipeE, okd_int, FV.toInt?, d_filled, ok, e0, e1, hi, Told.isNode, hv, ixS, atIx, oka, okb, ea, eb, i2, g1, b2, bltS, maxI, s]
    · rw [if_neg c1]
      rw [decide_eq_false c1] at ea
      by_cases c2 : b = .leaf true
      · rw [if_pos c2]
        rw [decide_eq_true c2] at eb
        have s := fun st => spread_ok (sub := sub) h_spread h_lifted h_base W k 0 (Told.fill a tl) (.num (max tr.greatest (Told.fill a tl).base)) st (by omega) (Nat.zero_le _)
        rw [encT_num] at s
        simp [bind_ok, bind_exc, fr_ok, fr_exc, frI_ok, frI_exc, tst_ok, tst_exc, of_some, s_ok, s_exc, sb_nx, sb_rt, sb_exc, so_some, g_true, kGet_some, ev_v, ev_k, k2bin_eq, k1bin_eq, ev_bin, k2cmp_eq, k1cmp_eq, ev_cmp, k2ix_eq, k1ix_eq, ev_ix, k2dget_eq, k1dget_eq, ev_dget, k2din_eq, k1din_eq, ev_din, k2dnot_eq, k1dnot_eq, ev_dnot, k2cutTo_eq, k1cutTo_eq, ev_cutTo, k2cutFrom_eq, k1cutFrom_eq, ev_cutFrom, k1and_eq, ev_and, k1or_eq, ev_or, k1not_eq, ev_not, k1neg_eq, ev_neg, k1ite_eq, ev_ite, k4chain_eq, k3chain_eq, k2chain_eq, k1chain_eq, ev_chain, k1tup_eq, ev_tup, k1lst_eq, ev_lst, k1mlst_eq, ev_mlst, k1mdic_eq, ev_mdic, ev_call, k1blt_eq, ev_blt, k2meth_eq, k1meth_eq, ev_meth, k1make_eq, ev_make, k2make_ok, k2make_exc, k1fld_eq, ev_fld, k1isi_eq, ev_isi, k2bm_eq, k1bm_eq, ev_bm, k3cut_eq, k2cuti_eq, k2cut_eq, k1cut_eq, ev_cut, kElt_f, kLst_eq, kLcB_some, kLcT_eq, kLc_eq, ev_lc, kIfF_eq, kLcIfB_some, kLcIfT_eq, kLcIf_eq, ev_lcIf, k2es_eq, k1es_eq, es_nil, es_cons, kSeq_eq, it_seq, kRange_eq, it_range, k3rangeS_eq, k2rangeS_eq, k1rangeS_eq, it_rangeS, kEnum_lst, kEnum_scr, it_enum, kZip_lst, k1zip_eq, it_zip, kSet_eq, ex_set, kNx_eq, kUnp_f, ex_unp, k2par_eq, k1par_eq, ex_par, k2app_eq, k1app_eq, ex_app, kIf_b, ex_ifs, kRt_eq, ex_ret, kEx_eq, ex_ex, ex_raise, ex_pass, kTry_exc, kTry_nx, kTry_rt, ex_try, kFors_eq, ex_fors, ex_whl, k3stx_eq, kFz_f, k2stx_eq, k1stx_eq, ex_setIx, k2stf_eq, k1stf_eq, ex_setFld, bk_nil, bk_cons, env0, leave_rt, leave_exc, cmpS, cmpop, binop, intsOf, g_true, allF, bindT, wipeE, okd_int, FV.toInt?, d_filled, ok, e0, e1, hi, Told.isNode, hv, ixS, atIx, oka, okb, ea, eb, i1, g2, b1, bltS, maxI, s]
      · rw [if_neg c2]
        rw [decide_eq_false c2] at eb
        have s := fun st => spread_ok (sub := sub) h_spread h_lifted h_base W k 0 (Told.fill a tl) (Told.fill b tr) st (by omega) (by omega)
        simp [bind_ok, bind_exc, fr_ok, fr_exc, frI_ok, frI_exc, tst_ok, tst_exc, of_some, s_ok, s_exc, sb_nx, sb_rt, sb_exc, so_some, g_true, kGet_some, ev_v, ev_k, k2bin_eq, k1bin_eq, ev_bin, k2cmp_eq, k1cmp_eq, ev_cmp, k2ix_eq, k1ix_eq, ev_ix, k2dget_eq, k1dget_eq, ev_dget, k2din_eq, k1din_eq, ev_din, k2dnot_eq, k1dnot_eq, ev_dnot, k2cutTo_eq, k1cutTo_eq, ev_cutTo, k2cutFrom_eq, k1cutFrom_eq, ev_cutFrom, k1and_eq, ev_and, k1or_eq, ev_or, k1not_eq, ev_not, k1neg_eq, ev_neg, k1ite_eq, ev_ite, k4chain_eq, k3chain_eq, k2chain_eq, k1chain_eq, ev_chain, k1tup_eq, ev_tup, k1lst_eq, ev_lst, k1mlst_eq, ev_mlst, k1mdic_eq, ev_mdic, ev_call, k1blt_eq, ev_blt, k2meth_eq, k1meth_eq, ev_meth, k1make_eq, ev_make, k2make_ok, k2make_exc, k1fld_eq, ev_fld, k1isi_eq, ev_isi, k2bm_eq, k1bm_eq, ev_bm, k3cut_eq, k2cuti_eq, k2cut_eq, k1cut_eq, ev_cut, kElt_f, kLst_eq, kLcB_some, kLcT_eq, kLc_eq, ev_lc, kIfF_eq, kLcIfB_some, kLcIfT_eq, kLcIf_eq, ev_lcIf, k2es_eq, k1es_eq, es_nil, es_cons, kSeq_eq, it_seq, kRange_eq, it_range, k3rangeS_eq, k2rangeS_eq, k1rangeS_eq, it_rangeS, kEnum_lst, kEnum_scr, it_enum, kZip_lst, k1zip_eq, it_zip, kSet_eq, ex_set, kNx_eq, kUnp_f, ex_unp, k2par_eq, k1par_eq, ex_par, k2app_eq, k1app_eq, ex_app, kIf_b, ex_ifs, kRt_eq, ex_ret, kEx_eq, ex_ex, ex_raise, ex_pass, kTry_exc, kTry_nx, kTry_rt, ex_try, kFors_eq, ex_fors, ex_whl, k3stx_eq, kFz_f, k2stx_eq, k1stx_eq, ex_setIx, k2stf_eq, k1stf_eq, ex_setFld, bk_nil, bk_cons, env0, leave_rt, leave_exc, cmpS, cmpop, binop, intsOf, g_true, allF, bindT, wipeE, okd_int, FV.toInt?, d_filled, ok, e0, e1, hi, Told.isNode, hv, ixS, atIx, oka, okb, ea, eb, i1, i2, s]
theorem price_ok (h_price : P 37 = some d_price) (h_halves : P 32 = some d_halves) (h_lifted : P 22 = some d_lifted) (W : Nat) : ∀ (n : Nat) (o : Own) (t : Told) (st : Store), o.depth + 2 < n → o.depth ≤ 60 → o.Nf → o ≠ .leaf false → run sub W P n 37 [.f (encO o), .f (encT t)] st = .ok (.f (.int (Told.price o t))) st
  | 0, _, _, _, h, _, _, _ => absurd h (Nat.not_lt_zero _)
  | n + 1, .leaf false, _, _, _, _, _, h => absurd rfl h
  | n + 1, .leaf true, t, st, h, h1, _, _ => by
    rw [run_succ (d := d_price) h_price rfl]
    have e1 : (encO (.leaf true)).eqv (.int 1) = true := rfl
    simp [bind_ok, bind_exc, fr_ok, fr_exc, frI_ok, frI_exc, tst_ok, tst_exc, of_some, s_ok, s_exc, sb_nx, sb_rt, sb_exc, so_some, g_true, kGet_some, ev_v, ev_k, k2bin_eq, k1bin_eq, ev_bin, k2cmp_eq, k1cmp_eq, ev_cmp, k2ix_eq, k1ix_eq, ev_ix, k2dget_eq, k1dget_eq, ev_dget, k2din_eq, k1din_eq, ev_din, k2dnot_eq, k1dnot_eq, ev_dnot, k2cutTo_eq, k1cutTo_eq, ev_cutTo, k2cutFrom_eq, k1cutFrom_eq, ev_cutFrom, k1and_eq, ev_and, k1or_eq, ev_or, k1not_eq, ev_not, k1neg_eq, ev_neg, k1ite_eq, ev_ite, k4chain_eq, k3chain_eq, k2chain_eq, k1chain_eq, ev_chain, k1tup_eq, ev_tup, k1lst_eq, ev_lst, k1mlst_eq, ev_mlst, k1mdic_eq, ev_mdic, ev_call, k1blt_eq, ev_blt, k2meth_eq, k1meth_eq, ev_meth, k1make_eq, ev_make, k2make_ok, k2make_exc, k1fld_eq, ev_fld, k1isi_eq, ev_isi, k2bm_eq, k1bm_eq, ev_bm, k3cut_eq, k2cuti_eq, k2cut_eq, k1cut_eq, ev_cut, kElt_f, kLst_eq, kLcB_some, kLcT_eq, kLc_eq, ev_lc, kIfF_eq, kLcIfB_some, kLcIfT_eq, kLcIf_eq, ev_lcIf, k2es_eq, k1es_eq, es_nil, es_cons, kSeq_eq, it_seq, kRange_eq, it_range, k3rangeS_eq, k2rangeS_eq, k1rangeS_eq, it_rangeS, kEnum_lst, kEnum_scr, it_enum, kZip_lst, k1zip_eq, it_zip, kSet_eq, ex_set, kNx_eq, kUnp_f, ex_unp, k2par_eq, k1par_eq, ex_par, k2app_eq, k1app_eq, ex_app, kIf_b, ex_ifs, kRt_eq, ex_ret, kEx_eq, ex_ex, ex_raise, ex_pass, kTry_exc, kTry_nx, kTry_rt, ex_try, kFors_eq, ex_fors, ex_whl, k3stx_eq, kFz_f, k2stx_eq, k1stx_eq, ex_setIx, k2stf_eq, k1stf_eq, ex_setFld, bk_nil, bk_cons, env0, leave_rt, leave_exc, cmpS, cmpop, binop, intsOf, g_true, allF, bindT, wipeE, okd_int, FV.toInt?, d_price, encO_okd h1, e1, Told.price]
  | n + 1, .node a b, t, st, h, h1, hn, _ => by
    rw [run_succ (d := d_price) h_price rfl]
    have ok := encO_okd h1
    have e1 := eqv1 (.node a b)
    have hi := encT_isi (sub := sub) st t
    have hz := Own.nf_zero hn
    simp only [Own.depth] at h h1
    obtain ⟨k, rfl⟩ : ∃ k, n = k + 2 := ⟨n - 2, by omega⟩
    have hv := fun st => halves_ok (sub := sub) h_halves h_lifted W k t st
    have oka : (encO a).okd = true := encO_okd (by omega)
    have okb : (encO b).okd = true := encO_okd (by omega)
    have ea := eqv0 a
    have eb := eqv0 b
    rw [encO_node] at ok e1 ⊢
    have em : (if t.isNode = true then (1 : Int) else 1001) = if t.isNode = true then 1 else 1 + 1000 := rfl
    by_cases c1 : a = .leaf false
    · have i2 := fun st => price_ok h_price h_halves h_lifted W (k + 2) b t.right st (by omega) (by omega) hn.2.1 (fun q => hz ⟨c1, q⟩)
      rw [decide_eq_true c1] at ea
      rw [Told.price, if_pos c1]
      cases q : t.isNode <;> rw [q] at hi <;> simp [bind_ok, bind_exc, fr_ok, fr_exc, frI_ok, frI_exc, tst_ok, tst_exc, of_some, s_ok, s_exc, sb_nx, sb_rt, sb_exc, so_some, g_true, kGet_some, ev_v, ev_k, k2bin_eq, k1bin_eq, ev_bin, k2cmp_eq, k1cmp_eq, ev_cmp, k2ix_eq, k1ix_eq, ev_ix, k2dget_eq, k1dget_eq, ev_dget, k2din_eq, k1din_eq, ev_din, k2dnot_eq, k1dnot_eq, ev_dnot, k2cutTo_eq, k1cutTo_eq, ev_cutTo, k2cutFrom_eq, k1cutFrom_eq, ev_cutFrom, k1and_eq, ev_and, k1or_eq, ev_or, k1not_eq, ev_not, k1neg_eq, ev_neg, k1ite_eq, ev_ite, k4chain_eq, k3chain_eq, k2chain_eq, k1chain_eq, ev_chain, k1tup_eq, ev_tup, k1lst_eq, ev_lst, k1mlst_eq, ev_mlst, k1mdic_eq, ev_mdic, ev_call, k1blt_eq, ev_blt, k2meth_eq, k1meth_eq, ev_meth, k1make_eq, ev_make, k2make_ok, k2make_exc, k1fld_eq, ev_fld, k1isi_eq, ev_isi, k2bm_eq, k1bm_eq, ev_bm, k3cut_eq, k2cuti_eq, k2cut_eq, k1cut_eq, ev_cut, kElt_f, kLst_eq, kLcB_some, kLcT_eq, kLc_eq, ev_lc, kIfF_eq, kLcIfB_some, kLcIfT_eq, kLcIf_eq, ev_lcIf, k2es_eq, k1es_eq, es_nil, es_cons, kSeq_eq, it_seq, kRange_eq, it_range, k3rangeS_eq, k2rangeS_eq, k1rangeS_eq, it_rangeS, kEnum_lst, kEnum_scr, it_enum, kZip_lst, k1zip_eq, it_zip, kSet_eq, ex_set, kNx_eq, kUnp_f, ex_unp, k2par_eq, k1par_eq, ex_par, k2app_eq, k1app_eq, ex_app, kIf_b, ex_ifs, kRt_eq, ex_ret, kEx_eq, ex_ex, ex_raise, ex_pass, kTry_exc, kTry_nx, kTry_rt, ex_try, kFors_eq, ex_fors, ex_whl, k3stx_eq, kFz_f, k2stx_eq, k1stx_eq, ex_setIx, k2stf_eq, k1stf_eq, ex_setFld, bk_nil, bk_cons, env0, leave_rt, leave_exc, cmpS, cmpop, binop, intsOf, g_true, allF, bindT, wipeE, okd_int, FV.toInt?, d_price, ok, e1, hi, hv, ixS, atIx, oka, okb, ea, eb, i2]
    · rw [decide_eq_false c1] at ea
      have i1 := fun st => price_ok h_price h_halves h_lifted W (k + 2) a t.left st (by omega) (by omega) hn.1 c1
      by_cases c2 : b = .leaf false
      · rw [decide_eq_true c2] at eb
        rw [Told.price, if_neg c1, if_pos c2]
        cases q : t.isNode <;> rw [q] at hi <;> simp [bind_ok, bind_exc, fr_ok, fr_exc, frI_ok, frI_exc, tst_ok, tst_exc, of_some, s_ok, s_exc, sb_nx, sb_rt, sb_exc, so_some, g_true, kGet_some, ev_v, ev_k, k2bin_eq, k1bin_eq, ev_bin, k2cmp_eq, k1cmp_eq, ev_cmp, k2ix_eq, k1ix_eq, ev_ix, k2dget_eq, k1dget_eq, ev_dget, k2din_eq, k1din_eq, ev_din, k2dnot_eq, k1dnot_eq, ev_dnot, k2cutTo_eq, k1cutTo_eq, ev_cutTo, k2cutFrom_eq, k1cutFrom_eq, ev_cutFrom, k1and_eq, ev_and, k1or_eq, ev_or, k1not_eq, ev_not, k1neg_eq, ev_neg, k1ite_eq, ev_ite, k4chain_eq, k3chain_eq, k2chain_eq, k1chain_eq, ev_chain, k1tup_eq, ev_tup, k1lst_eq, ev_lst, k1mlst_eq, ev_mlst, k1mdic_eq, ev_mdic, ev_call, k1blt_eq, ev_blt, k2meth_eq, k1meth_eq, ev_meth, k1make_eq, ev_make, k2make_ok, k2make_exc, k1fld_eq, ev_fld, k1isi_eq, ev_isi, k2bm_eq, k1bm_eq, ev_bm, k3cut_eq, k2cuti_eq, k2cut_eq, k1cut_eq, ev_cut, kElt_f, kLst_eq, kLcB_some, kLcT_eq, kLc_eq, ev_lc, kIfF_eq, kLcIfB_some, kLcIfT_eq, kLcIf_eq, ev_lcIf, k2es_eq, k1es_eq, es_nil, es_cons, kSeq_eq, it_seq, kRange_eq, it_range, k3rangeS_eq, k2rangeS_eq, k1rangeS_eq, it_rangeS, kEnum_lst, kEnum_scr, it_enum, kZip_lst, k1zip_eq, it_zip, kSet_eq, ex_set, kNx_eq, kUnp_f, ex_unp, k2par_eq, k1par_eq, ex_par, k2app_eq, k1app_eq, ex_app, kIf_b, ex_ifs, kRt_eq, ex_ret, kEx_eq, ex_ex, ex_raise, ex_pass, kTry_exc, kTry_nx, kTry_rt, ex_try, kFors_eq, ex_fors, ex_whl, k3stx_eq, kFz_f, k2stx_eq, k1stx_eq, ex_setIx, k2stf_eq, k1stf_eq, ex_setFld, bk_nil, bk_cons, env0, leave_rt, leave_exc, cmpS, cmpop, binop, intsOf, g_true, allF, bindT, wipeE, okd_int, FV.toInt?, d_price, ok, e1, hi, hv, ixS, atIx, oka, okb, ea, eb, i1]
      · rw [decide_eq_false c2] at eb
        have i2 := fun st => price_ok h_price h_halves h_lifted W (k + 2) b t.right st (by omega) (by omega) hn.2.1 c2
        rw [Told.price, if_neg c1, if_neg c2]
        cases q : t.isNode <;> rw [q] at hi <;> simp [bind_ok, bind_exc, fr_ok, fr_exc, frI_ok, frI_exc, tst_ok, tst_exc, of_some, s_ok, s_exc, sb_nx, sb_rt, sb_exc, so_some, g_true, kGet_some, ev_v, ev_k, k2bin_eq, k1bin_eq, ev_bin, k2cmp_eq, k1cmp_eq, ev_cmp, k2ix_eq, k1ix_eq, ev_ix, k2dget_eq, k1dget_eq, ev_dget, k2din_eq, k1din_eq, ev_din, k2dnot_eq, k1dnot_eq, ev_dnot, k2cutTo_eq, k1cutTo_eq, ev_cutTo, k2cutFrom_eq, k1cutFrom_eq, ev_cutFrom, k1and_eq, ev_and, k1or_eq, ev_or, k1not_eq, ev_not, k1neg_eq, ev_neg, k1ite_eq, ev_ite, k4chain_eq, k3chain_eq, k2chain_eq, k1chain_eq, ev_chain, k1tup_eq, ev_tup, k1lst_eq, ev_lst, k1mlst_eq, ev_mlst, k1mdic_eq, ev_mdic, ev_call, k1blt_eq, ev_blt, k2meth_eq, k1meth_eq, ev_meth, k1make_eq, ev_make, k2make_ok, k2make_exc, k1fld_eq, ev_fld, k1isi_eq, ev_isi, k2bm_eq, k1bm_eq, ev_bm, k3cut_eq, k2cuti_eq, k2cut_eq, k1cut_eq, ev_cut, kElt_f, kLst_eq, kLcB_some, kLcT_eq, kLc_eq, ev_lc, kIfF_eq, kLcIfB_some, kLcIfT_eq, kLcIf_eq, ev_lcIf, k2es_eq, k1es_eq, es_nil, es_cons, kSeq_eq, it_seq, kRange_eq, it_range, k3rangeS_eq, k2rangeS_eq, k1rangeS_eq, it_rangeS, kEnum_lst, kEnum_scr, it_enum, kZip_lst, k1zip_eq, it_zip, kSet_eq, ex_set, kNx_eq, kUnp_f, ex_unp, k2par_eq, k1par_eq, ex_par, k2app_eq, k1app_eq, ex_app, kIf_b, ex_ifs, kRt_eq, ex_ret, kEx_eq, ex_ex, ex_raise, ex_pass, kTry_exc, kTry_nx, kTry_rt, ex_try, kFors_eq, ex_fors, ex_whl, k3stx_eq, kFz_f, k2stx_eq, k1stx_eq, ex_setIx, k2stf_eq, k1stf_eq, ex_setFld, bk_nil, bk_cons, env0, leave_rt, leave_exc, cmpS, cmpop, binop, intsOf, g_true, allF, bindT, wipeE, okd_int, FV.toInt?, d_price, ok, e1, hi, hv, ixS, atIx, oka, okb, ea, eb, i1, i2, bltS, minI]
theorem goesLeft_ok (h_goes_left : P 38 = some d_goes_left) (h_price : P 37 = some d_price) (h_halves : P 32 = some d_halves) (h_lifted : P 22 = some d_lifted) (W n : Nat) (a b : Own) (l r : Told) (st : Store) (h : max a.depth b.depth + 2 < n) (h1 : (Own.node a b).depth ≤ 60) (hn : (Own.node a b).Nf) :
    run sub W P (n + 1) 38 [.f (encO (.node a b)), .f (encT l), .f (encT r)] st = .ok (.f (.bl (Told.goesLeft a b l r))) st := by
  rw [run_succ (d := d_goes_left) h_goes_left rfl]
  simp only [Own.depth] at h1
  have oka : (encO a).okd = true := encO_okd (by omega)
  have okb : (encO b).okd = true := encO_okd (by omega)
  have ea := eqv0 a
  have eb := eqv0 b
  rw [encO_node]
  unfold Told.goesLeft
  by_cases c1 : a = .leaf false
  · rw [decide_eq_true c1] at ea
    rw [if_pos c1]
    simp [bind_ok, bind_exc, fr_ok, fr_exc, frI_ok, frI_exc, tst_ok, tst_exc, of_some, s_ok, s_exc, sb_nx, sb_rt, sb_exc, so_some, g_true, kGet_some, ev_v, ev_k, k2bin_eq, k1bin_eq, ev_bin, k2cmp_eq, k1cmp_eq, ev_cmp, k2ix_eq, k1ix_eq, ev_ix, k2dget_eq, k1dget_eq, ev_dget, k2din_eq, k1din_eq, ev_din, k2dnot_eq, k1dnot_eq, ev_dnot, k2cutTo_eq, k1cutTo_eq, ev_cutTo, k2cutFrom_eq, k1cutFrom_eq, ev_cutFrom, k1and_eq, ev_and, k1or_eq, ev_or, k1not_eq, ev_not, k1neg_eq, ev_neg, k1ite_eq, ev_ite, k4chain_eq, k3chain_eq, k2chain_eq, k1chain_eq, ev_chain, k1tup_eq, ev_tup, k1lst_eq, ev_lst, k1mlst_eq, ev_mlst, k1mdic_eq, ev_mdic, ev_call, k1blt_eq, ev_blt, k2meth_eq, k1meth_eq, ev_meth, k1make_eq, ev_make, k2make_ok, k2make_exc, k1fld_eq, ev_fld, k1isi_eq, ev_isi, k2bm_eq, k1bm_eq, ev_bm, k3cut_eq, k2cuti_eq, k2cut_eq, k1cut_eq, ev_cut, kElt_f, kLst_eq, kLcB_some, kLcT_eq, kLc_eq, ev_lc, kIfF_eq, kLcIfB_some, kLcIfT_eq, kLcIf_eq, ev_lcIf, k2es_eq, k1es_eq, es_nil, es_cons, kSeq_eq, it_seq, kRange_eq, it_range, k3rangeS_eq, k2rangeS_eq, k1rangeS_eq, it_rangeS, kEnum_lst, kEnum_scr, it_enum, kZip_lst, k1zip_eq, it_zip, kSet_eq, ex_set, kNx_eq, kUnp_f, ex_unp, k2par_eq, k1par_eq, ex_par, k2app_eq, k1app_eq, ex_app, kIf_b, ex_ifs, kRt_eq, ex_ret, kEx_eq, ex_ex, ex_raise, ex_pass, kTry_exc, kTry_nx, kTry_rt, ex_try, kFors_eq, ex_fors, ex_whl, k3stx_eq, kFz_f, k2stx_eq, k1stx_eq, ex_setIx, k2stf_eq, k1stf_eq, ex_setFld, bk_nil, bk_cons, env0, leave_rt, leave_exc, cmpS, cmpop, binop, intsOf, g_true, allF, bindT, wipeE, okd_int, FV.toInt?, d_goes_left, ixS, atIx, oka, okb, ea, eb]
  · rw [decide_eq_false c1] at ea
    rw [if_neg c1]
    have i1 := fun st => price_ok (sub := sub) h_price h_halves h_lifted W n a l st (by omega) (by omega) hn.1 c1
    by_cases c2 : b = .leaf false
    · rw [decide_eq_true c2] at eb
      rw [if_pos c2]
      simp [bind_ok, bind_exc, fr_ok, fr_exc, frI_ok, frI_exc, tst_ok, tst_exc, of_some, s_ok, s_exc, sb_nx, sb_rt, sb_exc, so_some, g_true, kGet_some, ev_v, ev_k, k2bin_eq, k1bin_eq, ev_bin, k2cmp_eq, k1cmp_eq, ev_cmp, k2ix_eq, k1ix_eq, ev_ix, k2dget_eq, k1dget_eq, ev_dget, k2din_eq, k1din_eq, ev_din, k2dnot_eq, k1dnot_eq, ev_dnot, k2cutTo_eq, k1cutTo_eq, ev_cutTo, k2cutFrom_eq, k1cutFrom_eq, ev_cutFrom, k1and_eq, ev_and, k1or_eq, ev_or, k1not_eq, ev_not, k1neg_eq, ev_neg, k1ite_eq, ev_ite, k4chain_eq, k3chain_eq, k2chain_eq, k1chain_eq, ev_chain, k1tup_eq, ev_tup, k1lst_eq, ev_lst, k1mlst_eq, ev_mlst, k1mdic_eq, ev_mdic, ev_call, k1blt_eq, ev_blt, k2meth_eq, k1meth_eq, ev_meth, k1make_eq, ev_make, k2make_ok, k2make_exc, k1fld_eq, ev_fld, k1isi_eq, ev_isi, k2bm_eq, k1bm_eq, ev_bm, k3cut_eq, k2cuti_eq, k2cut_eq, k1cut_eq, ev_cut, kElt_f, kLst_eq, kLcB_some, kLcT_eq, kLc_eq, ev_lc, kIfF_eq, kLcIfB_some, kLcIfT_eq, kLcIf_eq, ev_lcIf, k2es_eq, k1es_eq, es_nil, es_cons, kSeq_eq, it_seq, kRange_eq, it_range, k3rangeS_eq, k2rangeS_eq, k1rangeS_eq, it_rangeS, kEnum_lst, kEnum_scr, it_enum, kZip_lst, k1zip_eq, it_zip, kSet_eq, ex_set, kNx_eq, kUnp_f, ex_unp, k2par_eq, k1par_eq, ex_par, k2app_eq, k1app_eq, ex_app, kIf_b, ex_ifs, kRt_eq, ex_ret, kEx_eq, ex_ex, ex_raise, ex_pass, kTry_exc, kTry_nx, kTry_rt, ex_try, kFors_eq, ex_fors, ex_whl, k3stx_eq, kFz_f, k2stx_eq, k1stx_eq, ex_setIx, k2stf_eq, k1stf_eq, ex_setFld, bk_nil, bk_cons, env0, leave_rt, leave_exc, cmpS, cmpop, binop, intsOf, g_true, allF, bindT, wipeE, okd_int, FV.toInt?, d_goes_left, ixS, atIx, oka, okb, ea, eb]
    · rw [decide_eq_false c2] at eb
      rw [if_neg c2]
      have i2 := fun st => price_ok (sub := sub) h_price h_halves h_lifted W n b r st (by omega) (by omega) hn.2.1 c2
      simp [bind_ok, bind_exc, fr_ok, fr_exc, frI_ok, frI_exc, tst_ok, tst_exc, of_some, s_ok, s_exc, sb_nx, sb_rt, sb_exc, so_some, g_true, kGet_some, ev_v, ev_k, k2bin_eq, k1bin_eq, ev_bin, k2cmp_eq, k1cmp_eq, ev_cmp, k2ix_eq, k1ix_eq, ev_ix, k2dget_eq, k1dget_eq, ev_dget, k2din_eq, k1din_eq, ev_din, k2dnot_eq, k1dnot_eq, ev_dnot, k2cutTo_eq, k1cutTo_eq, ev_cutTo, k2cutFrom_eq, k1cutFrom_eq, ev_cutFrom, k1and_eq, ev_and, k1or_eq, ev_or, k1not_eq, ev_not, k1neg_eq, ev_neg, k1ite_eq, ev_ite, k4chain_eq, k3chain_eq, k2chain_eq, k1chain_eq, ev_chain, k1tup_eq, ev_tup, k1lst_eq, ev_lst, k1mlst_eq, ev_mlst, k1mdic_eq, ev_mdic, ev_call, k1blt_eq, ev_blt, k2meth_eq, k1meth_eq, ev_meth, k1make_eq, ev_make, k2make_ok, k2make_exc, k1fld_eq, ev_fld, k1isi_eq, ev_isi, k2bm_eq, k1bm_eq, ev_bm, k3cut_eq, k2cuti_eq, k2cut_eq, k1cut_eq, ev_cut, kElt_f, kLst_eq, kLcB_some, kLcT_eq, kLc_eq, ev_lc, kIfF_eq, kLcIfB_some, kLcIfT_eq, kLcIf_eq, ev_lcIf, k2es_eq, k1es_eq, es_nil, es_cons, kSeq_eq, it_seq, kRange_eq, it_range, k3rangeS_eq, k2rangeS_eq, k1rangeS_eq, it_rangeS, kEnum_lst, kEnum_scr, it_enum, kZip_lst, k1zip_eq, it_zip, kSet_eq, ex_set, kNx_eq, kUnp_f, ex_unp, k2par_eq, k1par_eq, ex_par, k2app_eq, k1app_eq, ex_app, kIf_b, ex_ifs, kRt_eq, ex_ret, kEx_eq, ex_ex, ex_raise, ex_pass, kTry_exc, kTry_nx, kTry_rt, ex_try, kFors_eq, ex_fors, ex_whl, k3stx_eq, kFz_f, k2stx_eq, k1stx_eq, ex_setIx, k2stf_eq, k1stf_eq, ex_setFld, bk_nil, bk_cons, env0, leave_rt, leave_exc, cmpS, cmpop, binop, intsOf, g_true, allF, bindT, wipeE, okd_int, FV.toInt?, d_goes_left, ixS, atIx, oka, okb, ea, eb, i1, i2]
theorem grown_ok (h_grown : P 39 = some d_grown) (h_goes_left : P 38 = some d_goes_left) (h_price : P 37 = some d_price) (h_halves : P 32 = some d_halves) (h_spread : P 24 = some d_spread) (h_lifted : P 22 = some d_lifted) (h_base : P 23 = some d_base) (W : Nat) : ∀ (n : Nat) (o : Own) (t : Told) (st : Store), o.depth + 3 < n → max o.depth t.depth ≤ 60 → o.Nf → o ≠ .leaf false → t.Norm → Told.fill o t = t →
    run sub W P n 39 [.f (encO o), .f (encT t)] st = .ok (.f (encT (Told.grow o t))) st
  | 0, _, _, _, h, _, _, _, _, _ => absurd h (Nat.not_lt_zero _)
  | n + 1, .leaf false, _, _, _, _, _, h, _, _ => absurd rfl h
  | n + 1, .leaf true, t, st, h, h1, _, _, _, f => by
    have f : Told.num t.greatest = t := f
    rw [← f]
    rw [run_succ (d := d_grown) h_grown rfl]
    have e1 : (encO (.leaf true)).eqv (.int 1) = true := rfl
    have ok : (encO (.leaf true)).okd = true := encO_okd (Nat.zero_le _)
    simp [bind_ok, bind_exc, fr_ok, fr_exc, frI_ok, frI_exc, tst_ok, tst_exc, of_some, s_ok, s_exc, sb_nx, sb_rt, sb_exc, so_some, g_true, kGet_some, ev_v, ev_k, k2bin_eq, k1bin_eq, ev_bin, k2cmp_eq, k1cmp_eq, ev_cmp, k2ix_eq, k1ix_eq, ev_ix, k2dget_eq, k1dget_eq, ev_dget, k2din_eq, k1din_eq, ev_din, k2dnot_eq, k1dnot_eq, ev_dnot, k2cutTo_eq, k1cutTo_eq, ev_cutTo, k2cutFrom_eq, k1cutFrom_eq, ev_cutFrom, k1and_eq, ev_and, k1or_eq, ev_or, k1not_eq, ev_not, k1neg_eq, ev_neg, k1ite_eq, ev_ite, k4chain_eq, k3chain_eq, k2chain_eq, k1chain_eq, ev_chain, k1tup_eq, ev_tup, k1lst_eq, ev_lst, k1mlst_eq, ev_mlst, k1mdic_eq, ev_mdic, ev_call, k1blt_eq, ev_blt, k2meth_eq, k1meth_eq, ev_meth, k1make_eq, ev_make, k2make_ok, k2make_exc, k1fld_eq, ev_fld, k1isi_eq, ev_isi, k2bm_eq, k1bm_eq, ev_bm, k3cut_eq, k2cuti_eq, k2cut_eq, k1cut_eq, ev_cut, kElt_f, kLst_eq, kLcB_some, kLcT_eq, kLc_eq, ev_lc, kIfF_eq, kLcIfB_some, kLcIfT_eq, kLcIf_eq, ev_lcIf, k2es_eq, k1es_eq, es_nil, es_cons, kSeq_eq, it_seq, kRange_eq, it_range, k3rangeS_eq, k2rangeS_eq, k1rangeS_eq, it_rangeS, kEnum_lst, kEnum_scr, it_enum, kZip_lst, k1zip_eq, it_zip, kSet_eq, ex_set, kNx_eq, kUnp_f, ex_unp, k2par_eq, k1par_eq, ex_par, k2app_eq, k1app_eq, ex_app, kIf_b, ex_ifs, kRt_eq, ex_ret, kEx_eq, ex_ex, ex_raise, ex_pass, kTry_exc, kTry_nx, kTry_rt, ex_try, kFors_eq, ex_fors, ex_whl, k3stx_eq, kFz_f, k2stx_eq, k1stx_eq, ex_setIx, k2stf_eq, k1stf_eq, ex_setFld, bk_nil, bk_cons, env0, leave_rt, leave_exc, cmpS, cmpop, binop, intsOf, g_true, allF, bindT, wipeE, okd_int, FV.toInt?, d_grown, ok, e1, Told.grow, encT_num, Told.base]
  | n + 1, .node a b, t, st, h, h1, hn, _, nt, f => by
    rw [run_succ (d := d_grown) h_grown rfl]
    obtain ⟨f1, f2⟩ := Told.fix_half nt f
    have nl := Told.norm_left nt
    have nr := Told.norm_right nt
    have dl := Told.left_depth t
    have dr := Told.right_depth t
    have ok : (encO (.node a b)).okd = true := encO_okd (by omega)
    have e1 := eqv1 (.node a b)
    have hz := Own.nf_zero hn
    have dab : (Own.node a b).depth = max a.depth b.depth + 1 := rfl
    obtain ⟨k, rfl⟩ : ∃ k, n = k + 2 := ⟨n - 2, by omega⟩
    have hv := fun st => halves_ok (sub := sub) h_halves h_lifted W k t st
    have gl := fun st => goesLeft_ok (sub := sub) h_goes_left h_price h_halves h_lifted W (k + 1) a b t.left t.right st (by omega) (by omega) hn
    rw [encO_node] at ok e1 gl ⊢
    rw [Told.grow]
    cases c : Told.goesLeft a b t.left t.right with
    | true =>
      rw [c] at gl
      have ha : a ≠ .leaf false := fun q => by
        unfold Told.goesLeft at c
        rw [if_pos q] at c
        cases c
      have i1 := fun st => grown_ok h_grown h_goes_left h_price h_halves h_spread h_lifted h_base W (k + 2) a t.left st (by omega) (by omega) hn.1 ha nl f1
      have gd := Told.grow_depth a t.left
      have s := fun st => spread_ok (sub := sub) h_spread h_lifted h_base W k 0 (Told.grow a t.left) t.right st (by omega) (by omega)
      simp [bind_ok, bind_exc, fr_ok, fr_exc, frI_ok, frI_exc, tst_ok, tst_exc, of_some, s_ok, s_exc, sb_nx, sb_rt, sb_exc, so_some, g_true, kGet_some, ev_v, ev_k, k2bin_eq, k1bin_eq, ev_bin, k2cmp_eq, k1cmp_eq, ev_cmp, k2ix_eq, k1ix_eq, ev_ix, k2dget_eq, k1dget_eq, ev_dget, k2din_eq, k1din_eq, ev_din, k2dnot_eq, k1dnot_eq, ev_dnot, k2cutTo_eq, k1cutTo_eq, ev_cutTo, k2cutFrom_eq, k1cutFrom_eq, ev_cutFrom, k1and_eq, ev_and, k1or_eq, ev_or, k1not_eq, ev_not, k1neg_eq, ev_neg, k1ite_eq, ev_ite, k4chain_eq, k3chain_eq, k2chain_eq, k1chain_eq, ev_chain, k1tup_eq, ev_tup, k1lst_eq, ev_lst, k1mlst_eq, ev_mlst, k1mdic_eq, ev_mdic, ev_call, k1blt_eq, ev_blt, k2meth_eq, k1meth_eq, ev_meth, k1make_eq, ev_make, k2make_ok, k2make_exc, k1fld_eq, ev_fld, k1isi_eq, ev_isi, k2bm_eq, k1bm_eq, ev_bm, k3cut_eq, k2cuti_eq, k2cut_eq, k1cut_eq, ev_cut, kElt_f, kLst_eq, kLcB_some, kLcT_eq, kLc_eq, ev_lc, kIfF_eq, kLcIfB_some, kLcIfT_eq, kLcIf_eq, ev_lcIf, k2es_eq, k1es_eq, es_nil, es_cons, kSeq_eq, it_seq, kRange_eq, it_range, k3rangeS_eq, k2rangeS_eq, k1rangeS_eq, it_rangeS, kEnum_lst, kEnum_scr, it_enum, kZip_lst, k1zip_eq, it_zip, kSet_eq, ex_set, kNx_eq, kUnp_f, ex_unp, k2par_eq, k1par_eq, ex_par, k2app_eq, k1app_eq, ex_app, kIf_b, ex_ifs, kRt_eq, ex_ret, kEx_eq, ex_ex, ex_raise, ex_pass, kTry_exc, kTry_nx, kTry_rt, ex_try, kFors_eq, ex_fors, ex_whl, k3stx_eq, kFz_f, k2stx_eq, k1stx_eq, ex_setIx, k2stf_eq, k1stf_eq, ex_setFld, bk_nil, bk_cons, env0, leave_rt, leave_exc, cmpS, cmpop, binop, intsOf, g_true, allF, bindT, wipeE, okd_int, FV.toInt?, d_grown, ok, e1, hv, gl, ixS, atIx, i1, s]
    | false =>
      rw [c] at gl
      have hb : b ≠ .leaf false := fun q => by
        have ha : a ≠ .leaf false := fun q' => hz ⟨q', q⟩
        unfold Told.goesLeft at c
        rw [if_neg ha, if_pos q] at c
        cases c
      have i2 := fun st => grown_ok h_grown h_goes_left h_price h_halves h_spread h_lifted h_base W (k + 2) b t.right st (by omega) (by omega) hn.2.1 hb nr f2
      have gd := Told.grow_depth b t.right
      have s := fun st => spread_ok (sub := sub) h_spread h_lifted h_base W k 0 t.left (Told.grow b t.right) st (by omega) (by omega)
      simp [bind_ok, bind_exc, fr_ok, fr_exc, frI_ok, frI_exc, tst_ok, tst_exc, of_some, s_ok, s_exc, sb_nx, sb_rt, sb_exc, so_some, g_true, kGet_some, ev_v, ev_k, k2bin_eq, k1bin_eq, ev_bin, k2cmp_eq, k1cmp_eq, ev_cmp, k2ix_eq, k1ix_eq, ev_ix, k2dget_eq, k1dget_eq, ev_dget, k2din_eq, k1din_eq, ev_din, k2dnot_eq, k1dnot_eq, ev_dnot, k2cutTo_eq, k1cutTo_eq, ev_cutTo, k2cutFrom_eq, k1cutFrom_eq, ev_cutFrom, k1and_eq, ev_and, k1or_eq, ev_or, k1not_eq, ev_not, k1neg_eq, ev_neg, k1ite_eq, ev_ite, k4chain_eq, k3chain_eq, k2chain_eq, k1chain_eq, ev_chain, k1tup_eq, ev_tup, k1lst_eq, ev_lst, k1mlst_eq, ev_mlst, k1mdic_eq, ev_mdic, ev_call, k1blt_eq, ev_blt, k2meth_eq, k1meth_eq, ev_meth, k1make_eq, ev_make, k2make_ok, k2make_exc, k1fld_eq, ev_fld, k1isi_eq, ev_isi, k2bm_eq, k1bm_eq, ev_bm, k3cut_eq, k2cuti_eq, k2cut_eq, k1cut_eq, ev_cut, kElt_f, kLst_eq, kLcB_some, kLcT_eq, kLc_eq, ev_lc, kIfF_eq, kLcIfB_some, kLcIfT_eq, kLcIf_eq, ev_lcIf, k2es_eq, k1es_eq, es_nil, es_cons, kSeq_eq, it_seq, kRange_eq, it_range, k3rangeS_eq, k2rangeS_eq, k1rangeS_eq, it_rangeS, kEnum_lst, kEnum_scr, it_enum, kZip_lst, k1zip_eq, it_zip, kSet_eq, ex_set, kNx_eq, kUnp_f, ex_unp, k2par_eq, k1par_eq, ex_par, k2app_eq, k1app_eq, ex_app, kIf_b, ex_ifs, kRt_eq, ex_ret, kEx_eq, ex_ex, ex_raise, ex_pass, kTry_exc, kTry_nx, kTry_rt, ex_try, kFors_eq, ex_fors, ex_whl, k3stx_eq, kFz_f, k2stx_eq, k1stx_eq, ex_setIx, k2stf_eq, k1stf_eq, ex_setFld, bk_nil, bk_cons, env0, leave_rt, leave_exc, cmpS, cmpop, binop, intsOf, g_true, allF, bindT, wipeE, okd_int, FV.toInt?, d_grown, ok, e1, hv, gl, ixS, atIx, i2, s]
theorem raised0_ok (h_raised : P 40 = some d_raised) (W n : Nat) (t : Told) (st : Store) : run sub W P (n + 1) 40 [.f (.int 0), .f (encT t)] st = .exc 14 st := by
  rw [run_succ (d := d_raised) h_raised rfl]
  simp [bind_ok, bind_exc, fr_ok, fr_exc, frI_ok, frI_exc, tst_ok, tst_exc, of_some, s_ok, s_exc, sb_nx, sb_rt, sb_exc, so_some, g_true, kGet_some, ev_v, ev_k, k2bin_eq, k1bin_eq, ev_bin, k2cmp_eq, k1cmp_eq, ev_cmp, k2ix_eq, k1ix_eq, ev_ix, k2dget_eq, k1dget_eq, ev_dget, k2din_eq, k1din_eq, ev_din, k2dnot_eq, k1dnot_eq, ev_dnot, k2cutTo_eq, k1cutTo_eq, ev_cutTo, k2cutFrom_eq, k1cutFrom_eq, ev_cutFrom, k1and_eq, ev_and, k1or_eq, ev_or, k1not_eq, ev_not, k1neg_eq, ev_neg, k1ite_eq, ev_ite, k4chain_eq, k3chain_eq, k2chain_eq, k1chain_eq, ev_chain, k1tup_eq, ev_tup, k1lst_eq, ev_lst, k1mlst_eq, ev_mlst, k1mdic_eq, ev_mdic, ev_call, k1blt_eq, ev_blt, k2meth_eq, k1meth_eq, ev_meth, k1make_eq, ev_make, k2make_ok, k2make_exc, k1fld_eq, ev_fld, k1isi_eq, ev_isi, k2bm_eq, k1bm_eq, ev_bm, k3cut_eq, k2cuti_eq, k2cut_eq, k1cut_eq, ev_cut, kElt_f, kLst_eq, kLcB_some, kLcT_eq, kLc_eq, ev_lc, kIfF_eq, kLcIfB_some, kLcIfT_eq, kLcIf_eq, ev_lcIf, k2es_eq, k1es_eq, es_nil, es_cons, kSeq_eq, it_seq, kRange_eq, it_range, k3rangeS_eq, k2rangeS_eq, k1rangeS_eq, it_rangeS, kEnum_lst, kEnum_scr, it_enum, kZip_lst, k1zip_eq, it_zip, kSet_eq, ex_set, kNx_eq, kUnp_f, ex_unp, k2par_eq, k1par_eq, ex_par, k2app_eq, k1app_eq, ex_app, kIf_b, ex_ifs, kRt_eq, ex_ret, kEx_eq, ex_ex, ex_raise, ex_pass, kTry_exc, kTry_nx, kTry_rt, ex_try, kFors_eq, ex_fors, ex_whl, k3stx_eq, kFz_f, k2stx_eq, k1stx_eq, ex_setIx, k2stf_eq, k1stf_eq, ex_setFld, bk_nil, bk_cons, env0, leave_rt, leave_exc, cmpS, cmpop, binop, intsOf, g_true, allF, bindT, wipeE, okd_int, FV.toInt?, d_raised, FV.eqv]
theorem raised_ok (h_raised : P 40 = some d_raised) (h_filled : P 36 = some d_filled) (h_told_greatest : P 27 = some d_told_greatest) (h_told_least : P 26 = some d_told_least) (h_grown : P 39 = some d_grown) (h_goes_left : P 38 = some d_goes_left) (h_price : P 37 = some d_price) (h_halves : P 32 = some d_halves) (h_spread : P 24 = some d_spread) (h_lifted : P 22 = some d_lifted) (h_base : P 23 = some d_base) (W n : Nat) (o : Own) (t : Told) (st : Store) (h : max o.depth t.depth + 3 < n) (h1 : max o.depth t.depth ≤ 60) (hn : o.Nf) (hz : o ≠ .leaf false) (nt : t.Norm) :
    run sub W P (n + 1) 40 [.f (encO o), .f (encT t)] st = .ok (.f (encT (Told.raise o t))) st := by
  rw [run_succ (d := d_raised) h_raised rfl]
  have ok : (encO o).okd = true := encO_okd (by omega)
  have okt : (encT t).okd = true := encT_okd (by omega)
  have fd := Told.fill_depth o t
  have okf : (encT (Told.fill o t)).okd = true := encT_okd (by omega)
  have e0 := eqv0 o
  rw [decide_eq_false hz] at e0
  have f := fun st => filled_ok (sub := sub) h_filled h_told_greatest h_told_least h_halves h_spread h_lifted h_base W n o t st h (by omega) (by omega)
  have e := encT_eqv (Told.fill o t) t
  unfold Told.raise
  by_cases c : Told.fill o t = t
  · rw [if_pos c]
    rw [decide_eq_true c] at e
    have g := fun st => grown_ok (sub := sub) h_grown h_goes_left h_price h_halves h_spread h_lifted h_base W n o t st (by omega) h1 hn hz nt c
    simp [bind_ok, bind_exc, fr_ok, fr_exc, frI_ok, frI_exc, tst_ok, tst_exc, of_some, s_ok, s_exc, sb_nx, sb_rt, sb_exc, so_some, g_true, kGet_some, ev_v, ev_k, k2bin_eq, k1bin_eq, ev_bin, k2cmp_eq, k1cmp_eq, ev_cmp, k2ix_eq, k1ix_eq, ev_ix, k2dget_eq, k1dget_eq, ev_dget, k2din_eq, k1din_eq, ev_din, k2dnot_eq, k1dnot_eq, ev_dnot, k2cutTo_eq, k1cutTo_eq, ev_cutTo, k2cutFrom_eq, k1cutFrom_eq, ev_cutFrom, k1and_eq, ev_and, k1or_eq, ev_or, k1not_eq, ev_not, k1neg_eq, ev_neg, k1ite_eq, ev_ite, k4chain_eq, k3chain_eq, k2chain_eq, k1chain_eq, ev_chain, k1tup_eq, ev_tup, k1lst_eq, ev_lst, k1mlst_eq, ev_mlst, k1mdic_eq, ev_mdic, ev_call, k1blt_eq, ev_blt, k2meth_eq, k1meth_eq, ev_meth, k1make_eq, ev_make, k2make_ok, k2make_exc, k1fld_eq, ev_fld, k1isi_eq, ev_isi, k2bm_eq, k1bm_eq, ev_bm, k3cut_eq, k2cuti_eq, k2cut_eq, k1cut_eq, ev_cut, kElt_f, kLst_eq, kLcB_some, kLcT_eq, kLc_eq, ev_lc, kIfF_eq, kLcIfB_some, kLcIfT_eq, kLcIf_eq, ev_lcIf, k2es_eq, k1es_eq, es_nil, es_cons, kSeq_eq, it_seq, kRange_eq, it_range, k3rangeS_eq, k2rangeS_eq, k1rangeS_eq, it_rangeS, kEnum_lst, kEnum_scr, it_enum, kZip_lst, k1zip_eq, it_zip, kSet_eq, ex_set, kNx_eq, kUnp_f, ex_unp, k2par_eq, k1par_eq, ex_par, k2app_eq, k1app_eq, ex_app, kIf_b, ex_ifs, kRt_eq, ex_ret, kEx_eq, ex_ex, ex_raise, ex_pass, kTry_exc, kTry_nx, kTry_rt, ex_try, kFors_eq, ex_fors, ex_whl, k3stx_eq, kFz_f, k2stx_eq, k1stx_eq, ex_setIx, k2stf_eq, k1stf_eq, ex_setFld, bk_nil, bk_cons, env0, leave_rt, leave_exc, cmpS, cmpop, binop, intsOf, g_true, allF, bindT, wipeE, okd_int, FV.toInt?, d_raised, ok, e0, f, okt, okf, e, g]
  · rw [if_neg c]
    rw [decide_eq_false c] at e
    simp [bind_ok, bind_exc, fr_ok, fr_exc, frI_ok, frI_exc, tst_ok, tst_exc, of_some, s_ok, s_exc, sb_nx, sb_rt, sb_exc, so_some, g_true, kGet_some, ev_v, ev_k, k2bin_eq, k1bin_eq, ev_bin, k2cmp_eq, k1cmp_eq, ev_cmp, k2ix_eq, k1ix_eq, ev_ix, k2dget_eq, k1dget_eq, ev_dget, k2din_eq, k1din_eq, ev_din, k2dnot_eq, k1dnot_eq, ev_dnot, k2cutTo_eq, k1cutTo_eq, ev_cutTo, k2cutFrom_eq, k1cutFrom_eq, ev_cutFrom, k1and_eq, ev_and, k1or_eq, ev_or, k1not_eq, ev_not, k1neg_eq, ev_neg, k1ite_eq, ev_ite, k4chain_eq, k3chain_eq, k2chain_eq, k1chain_eq, ev_chain, k1tup_eq, ev_tup, k1lst_eq, ev_lst, k1mlst_eq, ev_mlst, k1mdic_eq, ev_mdic, ev_call, k1blt_eq, ev_blt, k2meth_eq, k1meth_eq, ev_meth, k1make_eq, ev_make, k2make_ok, k2make_exc, k1fld_eq, ev_fld, k1isi_eq, ev_isi, k2bm_eq, k1bm_eq, ev_bm, k3cut_eq, k2cuti_eq, k2cut_eq, k1cut_eq, ev_cut, kElt_f, kLst_eq, kLcB_some, kLcT_eq, kLc_eq, ev_lc, kIfF_eq, kLcIfB_some, kLcIfT_eq, kLcIf_eq, ev_lcIf, k2es_eq, k1es_eq, es_nil, es_cons, kSeq_eq, it_seq, kRange_eq, it_range, k3rangeS_eq, k2rangeS_eq, k1rangeS_eq, it_rangeS, kEnum_lst, kEnum_scr, it_enum, kZip_lst, k1zip_eq, it_zip, kSet_eq, ex_set, kNx_eq, kUnp_f, ex_unp, k2par_eq, k1par_eq, ex_par, k2app_eq, k1app_eq, ex_app, kIf_b, ex_ifs, kRt_eq, ex_ret, kEx_eq, ex_ex, ex_raise, ex_pass, kTry_exc, kTry_nx, kTry_rt, ex_try, kFors_eq, ex_fors, ex_whl, k3stx_eq, kFz_f, k2stx_eq, k1stx_eq, ex_setIx, k2stf_eq, k1stf_eq, ex_setFld, bk_nil, bk_cons, env0, leave_rt, leave_exc, cmpS, cmpop, binop, intsOf, g_true, allF, bindT, wipeE, okd_int, FV.toInt?, d_raised, ok, e0, f, okt, okf, e]
end Pl
end MP

namespace MP
namespace Pl
open Fk
/-! the law's own helpers: what they give -/
variable {sub : Nat → Nat → Option Bool} {P : Nat → Option Def}
theorem lmin_eq : ∀ (a : Int) (bs : List Int), MP.lmin a bs = Fk.lmin (a :: bs)
  | a, [] => rfl
  | a, [b] => rfl
  | a, b :: c :: bs => by
    show MP.lmin (min a b) (c :: bs) = min a (min b (Fk.lmin (c :: bs)))
    rw [lmin_eq (min a b) (c :: bs)]
    show min (min a b) (Fk.lmin (c :: bs)) = _
    omega
theorem lmax_eq : ∀ (a : Int) (bs : List Int), MP.lmax a bs = Fk.lmax (a :: bs)
  | a, [] => rfl
  | a, [b] => rfl
  | a, b :: c :: bs => by
    show MP.lmax (max a b) (c :: bs) = max a (max b (Fk.lmax (c :: bs)))
    rw [lmax_eq (max a b) (c :: bs)]
    show max (max a b) (Fk.lmax (c :: bs)) = _
    omega
theorem min_nums (st : Store) {ns : List Int} (h : ns ≠ []) : bltS st .min [.f (.lst (nums ns))] = some (.int (Fk.lmin ns)) := by
  cases ns with
  | nil => exact absurd rfl h
  | cons n ns =>
    show (allInts (nums (n :: ns))).bind _ = _
    rw [allInts_nums]
    show some (FV.int (MP.lmin n ns)) = _
    rw [lmin_eq]
theorem max_nums (st : Store) {ns : List Int} (h : ns ≠ []) : bltS st .max [.f (.lst (nums ns))] = some (.int (Fk.lmax ns)) := by
  cases ns with
  | nil => exact absurd rfl h
  | cons n ns =>
    show (allInts (nums (n :: ns))).bind _ = _
    rw [allInts_nums]
    show some (FV.int (MP.lmax n ns)) = _
    rw [lmax_eq]
theorem len_nums (st : Store) (ns : List Int) : bltS st .len [.f (.lst (nums ns))] = some (.int (ns.length : Nat)) := by
  show some (FV.int ((nums ns).length : Nat)) = _
  rw [nums_length]
theorem bmT_count (xs : List FV) : bmT .count (.lst xs) = true := rfl
theorem count_nums (ns : List Int) (x : Int) : bmF .count (.lst (nums ns)) [.int x] = some (.int (ns.count x : Nat)) := by
  show (allInts (nums ns)).map _ = _
  rw [allInts_nums]
  rfl
theorem eqv_nat (a b : Nat) : (FV.int a).eqv (.int b) = decide (a = b) := by
  by_cases q : a = b
  · simp [FV.eqv, q]
  · simp [FV.eqv, q]; omega
theorem data_nums : ∀ ns : List Int, FV.datas (nums ns) = true
  | [] => rfl
  | n :: ns => by
    show (FV.data (.int n) && FV.datas (nums ns)) = true
    rw [data_nums ns]
    rfl
theorem depth_nums : ∀ ns : List Int, FV.depths (nums ns) = 0
  | [] => rfl
  | n :: ns => by
    show Nat.max (FV.depth (.int n)) (FV.depths (nums ns)) = 0
    rw [depth_nums ns]
    rfl
theorem okd_nums (ns : List Int) : (FV.lst (nums ns)).okd = true := by
  show (FV.datas (nums ns) && decide (FV.depths (nums ns) + 1 ≤ 60)) = true
  rw [data_nums, depth_nums]
  rfl
theorem eqvs_nums : ∀ ns ms : List Int, FV.eqvs (nums ns) (nums ms) = decide (ns = ms)
  | [], [] => by simp [nums, FV.eqvs]
  | [], m :: ms => by simp [nums, FV.eqvs]
  | n :: ns, [] => by simp [nums, FV.eqvs]
  | n :: ns, m :: ms => by
    have i := eqvs_nums ns ms
    show (FV.eqv (.int n) (.int m) && FV.eqvs (nums ns) (nums ms)) = _
    rw [i]
    by_cases h : n = m <;> by_cases h2 : ns = ms <;> simp [FV.eqv, h, h2]
theorem eqv_nums (ns ms : List Int) : (FV.lst (nums ns)).eqv (.lst (nums ms)) = decide (ns = ms) := by
  show FV.eqvs (nums ns) (nums ms) = _
  exact eqvs_nums ns ms
theorem ix_two (st : Store) (x y i : Int) (h : i = 0 ∨ i = 1) : ixS st (.f (.lst [.int x, .int y])) (.int i) = some (.f (.int (if i = 0 then x else y))) := by
  rcases h with rfl | rfl <;> rfl
theorem tree_ok (h__law_tree : P 28 = some d__law_tree) (W : Nat) : ∀ (n d : Nat) (c m : Int) (st : Store), d < n → 0 ≤ m → run sub W P n 28 [.f (.int c), .f (.int m), .f (.int d)] st = .ok (.f (encT (genTold d c m))) st
  | 0, _, _, _, _, h, _ => absurd h (Nat.not_lt_zero _)
  | n + 1, d, c, m, st, h, hm => by
    rw [run_succ (d := d__law_tree) h__law_tree rfl]
    have g0 : cpow 10 60 = true := by decide
    have hi := ix_two st (m / 5 / 3 % 3) (c % 10 ^ 60) (m / 5 / 9 % 4 / 3) (by omega)
    have ea : (if m / 5 / 9 % 4 / 3 = 0 then m / 5 / 3 % 3 else c % 10 ^ 60) = amt c (m / 5) := rfl
    rw [ea] at hi
    have g1 : ∀ x, cmul x 48271 = true := fun x => cmul_r (by decide) (by decide)
    have g2 : ∀ x, cmul x 16807 = true := fun x => cmul_r (by decide) (by decide)
    have et : (10 : Int) ^ 60 = 1000000000000000000000000000000000000000000000000000000000000 := by decide
    rw [et] at hi
    cases d with
    | zero => simp [bind_ok, bind_exc, fr_ok, fr_exc, frI_ok, frI_exc, tst_ok, tst_exc, of_some, s_ok, s_exc, sb_nx, sb_rt, sb_exc, so_some, g_true, kGet_some, ev_v, ev_k, k2bin_eq, k1bin_eq, ev_bin, k2cmp_eq, k1cmp_eq, ev_cmp, k2ix_eq, k1ix_eq, ev_ix, k2dget_eq, k1dget_eq, ev_dget, k2din_eq, k1din_eq, ev_din, k2dnot_eq, k1dnot_eq, ev_dnot, k2cutTo_eq, k1cutTo_eq, ev_cutTo, k2cutFrom_eq, k1cutFrom_eq, ev_cutFrom, k1and_eq, ev_and, k1or_eq, ev_or, k1not_eq, ev_not, k1neg_eq, ev_neg, k1ite_eq, ev_ite, k4chain_eq, k3chain_eq, k2chain_eq, k1chain_eq, ev_chain, k1tup_eq, ev_tup, k1lst_eq, ev_lst, k1mlst_eq, ev_mlst, k1mdic_eq, ev_mdic, ev_call, k1blt_eq, ev_blt, k2meth_eq, k1meth_eq, ev_meth, k1make_eq, ev_make, k2make_ok, k2make_exc, k1fld_eq, ev_fld, k1isi_eq, ev_isi, k2bm_eq, k1bm_eq, ev_bm, k3cut_eq, k2cuti_eq, k2cut_eq, k1cut_eq, ev_cut, kElt_f, kLst_eq, kLcB_some, kLcT_eq, kLc_eq, ev_lc, kIfF_eq, kLcIfB_some, kLcIfT_eq, kLcIf_eq, ev_lcIf, k2es_eq, k1es_eq, es_nil, es_cons, kSeq_eq, it_seq, kRange_eq, it_range, k3rangeS_eq, k2rangeS_eq, k1rangeS_eq, it_rangeS, kEnum_lst, kEnum_scr, it_enum, kZip_lst, k1zip_eq, it_zip, kSet_eq, ex_set, kNx_eq, kUnp_f, ex_unp, k2par_eq, k1par_eq, ex_par, k2app_eq, k1app_eq, ex_app, kIf_b, ex_ifs, kRt_eq, ex_ret, kEx_eq, ex_ex, ex_raise, ex_pass, kTry_exc, kTry_nx, kTry_rt, ex_try, kFors_eq, ex_fors, ex_whl, k3stx_eq, kFz_f, k2stx_eq, k1stx_eq, ex_setIx, k2stf_eq, k1stf_eq, ex_setFld, bk_nil, bk_cons, env0, leave_rt, leave_exc, cmpS, cmpop, binop, intsOf, g_true, allF, bindT, wipeE, okd_int, FV.toInt?, d__law_tree, g0, hi, FV.eqv, genTold, encT_num]
    | succ d =>
      have e0 : ¬ ((d : Int) + 1 = 0) := by omega
      have e1 : (d : Int) + 1 - 1 = d := by omega
      by_cases q : m % 5 < 2
      · simp [bind_ok, bind_exc, fr_ok, fr_exc, frI_ok, frI_exc, tst_ok, tst_exc, of_some, s_ok, s_exc, sb_nx, sb_rt, sb_exc, so_some, g_true, kGet_some, ev_v, ev_k, k2bin_eq, k1bin_eq, ev_bin, k2cmp_eq, k1cmp_eq, ev_cmp, k2ix_eq, k1ix_eq, ev_ix, k2dget_eq, k1dget_eq, ev_dget, k2din_eq, k1din_eq, ev_din, k2dnot_eq, k1dnot_eq, ev_dnot, k2cutTo_eq, k1cutTo_eq, ev_cutTo, k2cutFrom_eq, k1cutFrom_eq, ev_cutFrom, k1and_eq, ev_and, k1or_eq, ev_or, k1not_eq, ev_not, k1neg_eq, ev_neg, k1ite_eq, ev_ite, k4chain_eq, k3chain_eq, k2chain_eq, k1chain_eq, ev_chain, k1tup_eq, ev_tup, k1lst_eq, ev_lst, k1mlst_eq, ev_mlst, k1mdic_eq, ev_mdic, ev_call, k1blt_eq, ev_blt, k2meth_eq, k1meth_eq, ev_meth, k1make_eq, ev_make, k2make_ok, k2make_exc, k1fld_eq, ev_fld, k1isi_eq, ev_isi, k2bm_eq, k1bm_eq, ev_bm, k3cut_eq, k2cuti_eq, k2cut_eq, k1cut_eq, ev_cut, kElt_f, kLst_eq, kLcB_some, kLcT_eq, kLc_eq, ev_lc, kIfF_eq, kLcIfB_some, kLcIfT_eq, kLcIf_eq, ev_lcIf, k2es_eq, k1es_eq, es_nil, es_cons, kSeq_eq, it_seq, kRange_eq, it_range, k3rangeS_eq, k2rangeS_eq, k1rangeS_eq, it_rangeS, kEnum_lst, kEnum_scr, it_enum, kZip_lst, k1zip_eq, it_zip, kSet_eq, ex_set, kNx_eq, kUnp_f, ex_unp, k2par_eq, k1par_eq, ex_par, k2app_eq, k1app_eq, ex_app, kIf_b, ex_ifs, kRt_eq, ex_ret, kEx_eq, ex_ex, ex_raise, ex_pass, kTry_exc, kTry_nx, kTry_rt, ex_try, kFors_eq, ex_fors, ex_whl, k3stx_eq, kFz_f, k2stx_eq, k1stx_eq, ex_setIx, k2stf_eq, k1stf_eq, ex_setFld, bk_nil, bk_cons, env0, leave_rt, leave_exc, cmpS, cmpop, binop, intsOf, g_true, allF, bindT, wipeE, okd_int, FV.toInt?, d__law_tree, g0, hi, FV.eqv, genTold, encT_num, e0, q]
      · have i1 := fun st => tree_ok h__law_tree W n d c (m / 5 * 16807 % 1000003) st (by omega) (Int.emod_nonneg _ (by decide))
        have i2 := fun st => tree_ok h__law_tree W n d (c / 3) (m / 5 * 48271 % 1000033) st (by omega) (Int.emod_nonneg _ (by decide))
        simp [bind_ok, bind_exc, fr_ok, fr_exc, frI_ok, frI_exc, tst_ok, tst_exc, of_some, s_ok, s_exc, sb_nx, sb_rt, sb_exc, so_some, g_true, kGet_some, ev_v, ev_k, k2bin_eq, k1bin_eq, ev_bin, k2cmp_eq, k1cmp_eq, ev_cmp, k2ix_eq, k1ix_eq, ev_ix, k2dget_eq, k1dget_eq, ev_dget, k2din_eq, k1din_eq, ev_din, k2dnot_eq, k1dnot_eq, ev_dnot, k2cutTo_eq, k1cutTo_eq, ev_cutTo, k2cutFrom_eq, k1cutFrom_eq, ev_cutFrom, k1and_eq, ev_and, k1or_eq, ev_or, k1not_eq, ev_not, k1neg_eq, ev_neg, k1ite_eq, ev_ite, k4chain_eq, k3chain_eq, k2chain_eq, k1chain_eq, ev_chain, k1tup_eq, ev_tup, k1lst_eq, ev_lst, k1mlst_eq, ev_mlst, k1mdic_eq, ev_mdic, ev_call, k1blt_eq, ev_blt, k2meth_eq, k1meth_eq, ev_meth, k1make_eq, ev_make, k2make_ok, k2make_exc, k1fld_eq, ev_fld, k1isi_eq, ev_isi, k2bm_eq, k1bm_eq, ev_bm, k3cut_eq, k2cuti_eq, k2cut_eq, k1cut_eq, ev_cut, kElt_f, kLst_eq, kLcB_some, kLcT_eq, kLc_eq, ev_lc, kIfF_eq, kLcIfB_some, kLcIfT_eq, kLcIf_eq, ev_lcIf, k2es_eq, k1es_eq, es_nil, es_cons, kSeq_eq, it_seq, kRange_eq, it_range, k3rangeS_eq, k2rangeS_eq, k1rangeS_eq, it_rangeS, kEnum_lst, kEnum_scr, it_enum, kZip_lst, k1zip_eq, it_zip, kSet_eq, ex_set, kNx_eq, kUnp_f, ex_unp, k2par_eq, k1par_eq, ex_par, k2app_eq, k1app_eq, ex_app, kIf_b, ex_ifs, kRt_eq, ex_ret, kEx_eq, ex_ex, ex_raise, ex_pass, kTry_exc, kTry_nx, kTry_rt, ex_try, kFors_eq, ex_fors, ex_whl, k3stx_eq, kFz_f, k2stx_eq, k1stx_eq, ex_setIx, k2stf_eq, k1stf_eq, ex_setFld, bk_nil, bk_cons, env0, leave_rt, leave_exc, cmpS, cmpop, binop, intsOf, g_true, allF, bindT, wipeE, okd_int, FV.toInt?, d__law_tree, g0, hi, FV.eqv, genTold, encT_node, e0, e1, q, g1, g2, i1, i2]
theorem numbers_ok (h__law_numbers : P 29 = some d__law_numbers) (W : Nat) : ∀ (n d : Nat) (t : Told) (st : Store), d < n → t.depth ≤ d → d ≤ 10 → run sub W P n 29 [.f (encT t), .f (.int d)] st = .ok (.f (.lst (nums (tvals d t)))) st
  | 0, _, _, _, h, _, _ => absurd h (Nat.not_lt_zero _)
  | n + 1, 0, .num i, st, _, _, _ => by
    rw [run_succ (d := d__law_numbers) h__law_numbers rfl]
    simp [bind_ok, bind_exc, fr_ok, fr_exc, frI_ok, frI_exc, tst_ok, tst_exc, of_some, s_ok, s_exc, sb_nx, sb_rt, sb_exc, so_some, g_true, kGet_some, ev_v, ev_k, k2bin_eq, k1bin_eq, ev_bin, k2cmp_eq, k1cmp_eq, ev_cmp, k2ix_eq, k1ix_eq, ev_ix, k2dget_eq, k1dget_eq, ev_dget, k2din_eq, k1din_eq, ev_din, k2dnot_eq, k1dnot_eq, ev_dnot, k2cutTo_eq, k1cutTo_eq, ev_cutTo, k2cutFrom_eq, k1cutFrom_eq, ev_cutFrom, k1and_eq, ev_and, k1or_eq, ev_or, k1not_eq, ev_not, k1neg_eq, ev_neg, k1ite_eq, ev_ite, k4chain_eq, k3chain_eq, k2chain_eq, k1chain_eq, ev_chain, k1tup_eq, ev_tup, k1lst_eq, ev_lst, k1mlst_eq, ev_mlst, k1mdic_eq, ev_mdic, ev_call, k1blt_eq, ev_blt, k2meth_eq, k1meth_eq, ev_meth, k1make_eq, ev_make, k2make_ok, k2make_exc, k1fld_eq, ev_fld, k1isi_eq, ev_isi, k2bm_eq, k1bm_eq, ev_bm, k3cut_eq, k2cuti_eq, k2cut_eq, k1cut_eq, ev_cut, kElt_f, kLst_eq, kLcB_some, kLcT_eq, kLc_eq, ev_lc, kIfF_eq, kLcIfB_some, kLcIfT_eq, kLcIf_eq, ev_lcIf, k2es_eq, k1es_eq, es_nil, es_cons, kSeq_eq, it_seq, kRange_eq, it_range, k3rangeS_eq, k2rangeS_eq, k1rangeS_eq, it_rangeS, kEnum_lst, kEnum_scr, it_enum, kZip_lst, k1zip_eq, it_zip, kSet_eq, ex_set, kNx_eq, kUnp_f, ex_unp, k2par_eq, k1par_eq, ex_par, k2app_eq, k1app_eq, ex_app, kIf_b, ex_ifs, kRt_eq, ex_ret, kEx_eq, ex_ex, ex_raise, ex_pass, kTry_exc, kTry_nx, kTry_rt, ex_try, kFors_eq, ex_fors, ex_whl, k3stx_eq, kFz_f, k2stx_eq, k1stx_eq, ex_setIx, k2stf_eq, k1stf_eq, ex_setFld, bk_nil, bk_cons, env0, leave_rt, leave_exc, cmpS, cmpop, binop, intsOf, g_true, allF, bindT, wipeE, okd_int, FV.toInt?, d__law_numbers, FV.eqv, encT_num, tvals, Told.base, nums]
  | n + 1, 0, .node _ _ _, st, _, h, _ => by simp [Told.depth] at h
  | n + 1, d + 1, .num i, st, h, _, h3 => by
    rw [run_succ (d := d__law_numbers) h__law_numbers rfl]
    have e0 : ¬ ((d : Int) + 1 = 0) := by omega
    have e1 : (d : Int) + 1 - 1 = d := by omega
    have i1 := fun st => numbers_ok h__law_numbers W n d (.num i) st (by omega) (Nat.zero_le _) (by omega)
    rw [encT_num] at i1
    have q := tvals_length d (.num i)
    have q2 : 2 ^ d ≤ 2 ^ 10 := Nat.pow_le_pow_right (by decide) (by omega)
    have q3 : 2 ^ d + 2 ^ d ≤ line := by unfold line; omega
    simp [bind_ok, bind_exc, fr_ok, fr_exc, frI_ok, frI_exc, tst_ok, tst_exc, of_some, s_ok, s_exc, sb_nx, sb_rt, sb_exc, so_some, g_true, kGet_some, ev_v, ev_k, k2bin_eq, k1bin_eq, ev_bin, k2cmp_eq, k1cmp_eq, ev_cmp, k2ix_eq, k1ix_eq, ev_ix, k2dget_eq, k1dget_eq, ev_dget, k2din_eq, k1din_eq, ev_din, k2dnot_eq, k1dnot_eq, ev_dnot, k2cutTo_eq, k1cutTo_eq, ev_cutTo, k2cutFrom_eq, k1cutFrom_eq, ev_cutFrom, k1and_eq, ev_and, k1or_eq, ev_or, k1not_eq, ev_not, k1neg_eq, ev_neg, k1ite_eq, ev_ite, k4chain_eq, k3chain_eq, k2chain_eq, k1chain_eq, ev_chain, k1tup_eq, ev_tup, k1lst_eq, ev_lst, k1mlst_eq, ev_mlst, k1mdic_eq, ev_mdic, ev_call, k1blt_eq, ev_blt, k2meth_eq, k1meth_eq, ev_meth, k1make_eq, ev_make, k2make_ok, k2make_exc, k1fld_eq, ev_fld, k1isi_eq, ev_isi, k2bm_eq, k1bm_eq, ev_bm, k3cut_eq, k2cuti_eq, k2cut_eq, k1cut_eq, ev_cut, kElt_f, kLst_eq, kLcB_some, kLcT_eq, kLc_eq, ev_lc, kIfF_eq, kLcIfB_some, kLcIfT_eq, kLcIf_eq, ev_lcIf, k2es_eq, k1es_eq, es_nil, es_cons, kSeq_eq, it_seq, kRange_eq, it_range, k3rangeS_eq, k2rangeS_eq, k1rangeS_eq, it_rangeS, kEnum_lst, kEnum_scr, it_enum, kZip_lst, k1zip_eq, it_zip, kSet_eq, ex_set, kNx_eq, kUnp_f, ex_unp, k2par_eq, k1par_eq, ex_par, k2app_eq, k1app_eq, ex_app, kIf_b, ex_ifs, kRt_eq, ex_ret, kEx_eq, ex_ex, ex_raise, ex_pass, kTry_exc, kTry_nx, kTry_rt, ex_try, kFors_eq, ex_fors, ex_whl, k3stx_eq, kFz_f, k2stx_eq, k1stx_eq, ex_setIx, k2stf_eq, k1stf_eq, ex_setFld, bk_nil, bk_cons, env0, leave_rt, leave_exc, cmpS, cmpop, binop, intsOf, g_true, allF, bindT, wipeE, okd_int, FV.toInt?, d__law_numbers, FV.eqv, encT_num, isiS, isiF, tvals, e0, e1, i1, nums_length, nums_append, q, q3]
  | n + 1, d + 1, .node a l r, st, h, h2, h3 => by
    simp only [Told.depth] at h2
    rw [run_succ (d := d__law_numbers) h__law_numbers rfl]
    have e0 : ¬ ((d : Int) + 1 = 0) := by omega
    have e1 : (d : Int) + 1 - 1 = d := by omega
    have i1 := fun st => numbers_ok h__law_numbers W n d l st (by omega) (by omega) (by omega)
    have i2 := fun st => numbers_ok h__law_numbers W n d r st (by omega) (by omega) (by omega)
    have p1 := tvals_length d l
    have p2 := tvals_length d r
    have q2 : 2 ^ d ≤ 2 ^ 10 := Nat.pow_le_pow_right (by decide) (by omega)
    have q3 : 2 ^ d + 2 ^ d ≤ line := by unfold line; omega
    have lc : ∀ (env : Env) (st : Store), env = [some (.f (.tup [.int a, encT l, encT r])), some (.f (.int (d + 1))), none] → lcL (kLcT sub (run sub W P n) (.bin .add (.ix (.v 0) (.k (.int 0))) (.v 2)) [2] env) (nums (tvals d l ++ tvals d r)) [] st = .ok (nums ((tvals d l ++ tvals d r).map (a + ·))) st := by
      intro env st he
      subst he
      rw [lcL_map (f := fun x => match x with | .int i => .int (a + i) | _ => .non)]
      · simp only [List.nil_append, nums, List.map_map]
        rfl
      · intro x hx
        obtain ⟨q, _, rfl⟩ := List.mem_map.mp hx
        simp [bind_ok, bind_exc, fr_ok, fr_exc, frI_ok, frI_exc, tst_ok, tst_exc, of_some, s_ok, s_exc, sb_nx, sb_rt, sb_exc, so_some, g_true, kGet_some, ev_v, ev_k, k2bin_eq, k1bin_eq, ev_bin, k2cmp_eq, k1cmp_eq, ev_cmp, k2ix_eq, k1ix_eq, ev_ix, k2dget_eq, k1dget_eq, ev_dget, k2din_eq, k1din_eq, ev_din, k2dnot_eq, k1dnot_eq, ev_dnot, k2cutTo_eq, k1cutTo_eq, ev_cutTo, k2cutFrom_eq, k1cutFrom_eq, ev_cutFrom, k1and_eq, ev_and, k1or_eq, ev_or, k1not_eq, ev_not, k1neg_eq, ev_neg, k1ite_eq, ev_ite, k4chain_eq, k3chain_eq, k2chain_eq, k1chain_eq, ev_chain, k1tup_eq, ev_tup, k1lst_eq, ev_lst, k1mlst_eq, ev_mlst, k1mdic_eq, ev_mdic, ev_call, k1blt_eq, ev_blt, k2meth_eq, k1meth_eq, ev_meth, k1make_eq, ev_make, k2make_ok, k2make_exc, k1fld_eq, ev_fld, k1isi_eq, ev_isi, k2bm_eq, k1bm_eq, ev_bm, k3cut_eq, k2cuti_eq, k2cut_eq, k1cut_eq, ev_cut, kElt_f, kLst_eq, kLcB_some, kLcT_eq, kLc_eq, ev_lc, kIfF_eq, kLcIfB_some, kLcIfT_eq, kLcIf_eq, ev_lcIf, k2es_eq, k1es_eq, es_nil, es_cons, kSeq_eq, it_seq, kRange_eq, it_range, k3rangeS_eq, k2rangeS_eq, k1rangeS_eq, it_rangeS, kEnum_lst, kEnum_scr, it_enum, kZip_lst, k1zip_eq, it_zip, kSet_eq, ex_set, kNx_eq, kUnp_f, ex_unp, k2par_eq, k1par_eq, ex_par, k2app_eq, k1app_eq, ex_app, kIf_b, ex_ifs, kRt_eq, ex_ret, kEx_eq, ex_ex, ex_raise, ex_pass, kTry_exc, kTry_nx, kTry_rt, ex_try, kFors_eq, ex_fors, ex_whl, k3stx_eq, kFz_f, k2stx_eq, k1stx_eq, ex_setIx, k2stf_eq, k1stf_eq, ex_setFld, bk_nil, bk_cons, env0, leave_rt, leave_exc, cmpS, cmpop, binop, intsOf, g_true, allF, bindT, wipeE, okd_int, FV.toInt?, ixS, atIx]
      · rw [nums_length, List.length_append, p1, p2, List.length_nil]
        omega
    rw [nums_append] at lc
    simp [bind_ok, bind_exc, fr_ok, fr_exc, frI_ok, frI_exc, tst_ok, tst_exc, of_some, s_ok, s_exc, sb_nx, sb_rt, sb_exc, so_some, g_true, kGet_some, ev_v, ev_k, k2bin_eq, k1bin_eq, ev_bin, k2cmp_eq, k1cmp_eq, ev_cmp, k2ix_eq, k1ix_eq, ev_ix, k2dget_eq, k1dget_eq, ev_dget, k2din_eq, k1din_eq, ev_din, k2dnot_eq, k1dnot_eq, ev_dnot, k2cutTo_eq, k1cutTo_eq, ev_cutTo, k2cutFrom_eq, k1cutFrom_eq, ev_cutFrom, k1and_eq, ev_and, k1or_eq, ev_or, k1not_eq, ev_not, k1neg_eq, ev_neg, k1ite_eq, ev_ite, k4chain_eq, k3chain_eq, k2chain_eq, k1chain_eq, ev_chain, k1tup_eq, ev_tup, k1lst_eq, ev_lst, k1mlst_eq, ev_mlst, k1mdic_eq, ev_mdic, ev_call, k1blt_eq, ev_blt, k2meth_eq, k1meth_eq, ev_meth, k1make_eq, ev_make, k2make_ok, k2make_exc, k1fld_eq, ev_fld, k1isi_eq, ev_isi, k2bm_eq, k1bm_eq, ev_bm, k3cut_eq, k2cuti_eq, k2cut_eq, k1cut_eq, ev_cut, kElt_f, kLst_eq, kLcB_some, kLcT_eq, kLc_eq, ev_lc, kIfF_eq, kLcIfB_some, kLcIfT_eq, kLcIf_eq, ev_lcIf, k2es_eq, k1es_eq, es_nil, es_cons, kSeq_eq, it_seq, kRange_eq, it_range, k3rangeS_eq, k2rangeS_eq, k1rangeS_eq, it_rangeS, kEnum_lst, kEnum_scr, it_enum, kZip_lst, k1zip_eq, it_zip, kSet_eq, ex_set, kNx_eq, kUnp_f, ex_unp, k2par_eq, k1par_eq, ex_par, k2app_eq, k1app_eq, ex_app, kIf_b, ex_ifs, kRt_eq, ex_ret, kEx_eq, ex_ex, ex_raise, ex_pass, kTry_exc, kTry_nx, kTry_rt, ex_try, kFors_eq, ex_fors, ex_whl, k3stx_eq, kFz_f, k2stx_eq, k1stx_eq, ex_setIx, k2stf_eq, k1stf_eq, ex_setFld, bk_nil, bk_cons, env0, leave_rt, leave_exc, cmpS, cmpop, binop, intsOf, g_true, allF, bindT, wipeE, okd_int, FV.toInt?, d__law_numbers, FV.eqv, encT_node, isiS, isiF, tvals, e0, e1, i1, i2, nums_length, nums_append, p1, p2, q3, ixS, atIx, seqOf, lc]
theorem toldOf_ok (h__law_told_of : P 30 = some d__law_told_of) (W : Nat) : ∀ (n d : Nat) (ns : List Int) (st : Store), d < n → ns.length = 2 ^ d → d ≤ 10 → run sub W P n 30 [.f (.lst (nums ns))] st = .ok (.f (encT (toldOf d ns))) st
  | 0, _, _, _, h, _, _ => absurd h (Nat.not_lt_zero _)
  | n + 1, d, ns, st, h, h2, h3 => by
    rw [run_succ (d := d__law_told_of) h__law_told_of rfl]
    have hne := ne_of_pow h2
    have mn := min_nums st hne
    have ln := len_nums st ns
    have ct := count_nums ns (Fk.lmin ns)
    have eq := eqv_nat (ns.count (Fk.lmin ns)) ns.length
    by_cases c : ns.count (Fk.lmin ns) = ns.length
    · rw [decide_eq_true c] at eq
      have eo : toldOf d ns = .num (Fk.lmin ns) := by
        cases d with
        | zero => rfl
        | succ d => unfold toldOf; rw [if_pos c]
      rw [eo, encT_num]
      simp [bind_ok, bind_exc, fr_ok, fr_exc, frI_ok, frI_exc, tst_ok, tst_exc, of_some, s_ok, s_exc, sb_nx, sb_rt, sb_exc, so_some, g_true, kGet_some, ev_v, ev_k, k2bin_eq, k1bin_eq, ev_bin, k2cmp_eq, k1cmp_eq, ev_cmp, k2ix_eq, k1ix_eq, ev_ix, k2dget_eq, k1dget_eq, ev_dget, k2din_eq, k1din_eq, ev_din, k2dnot_eq, k1dnot_eq, ev_dnot, k2cutTo_eq, k1cutTo_eq, ev_cutTo, k2cutFrom_eq, k1cutFrom_eq, ev_cutFrom, k1and_eq, ev_and, k1or_eq, ev_or, k1not_eq, ev_not, k1neg_eq, ev_neg, k1ite_eq, ev_ite, k4chain_eq, k3chain_eq, k2chain_eq, k1chain_eq, ev_chain, k1tup_eq, ev_tup, k1lst_eq, ev_lst, k1mlst_eq, ev_mlst, k1mdic_eq, ev_mdic, ev_call, k1blt_eq, ev_blt, k2meth_eq, k1meth_eq, ev_meth, k1make_eq, ev_make, k2make_ok, k2make_exc, k1fld_eq, ev_fld, k1isi_eq, ev_isi, k2bm_eq, k1bm_eq, ev_bm, k3cut_eq, k2cuti_eq, k2cut_eq, k1cut_eq, ev_cut, kElt_f, kLst_eq, kLcB_some, kLcT_eq, kLc_eq, ev_lc, kIfF_eq, kLcIfB_some, kLcIfT_eq, kLcIf_eq, ev_lcIf, k2es_eq, k1es_eq, es_nil, es_cons, kSeq_eq, it_seq, kRange_eq, it_range, k3rangeS_eq, k2rangeS_eq, k1rangeS_eq, it_rangeS, kEnum_lst, kEnum_scr, it_enum, kZip_lst, k1zip_eq, it_zip, kSet_eq, ex_set, kNx_eq, kUnp_f, ex_unp, k2par_eq, k1par_eq, ex_par, k2app_eq, k1app_eq, ex_app, kIf_b, ex_ifs, kRt_eq, ex_ret, kEx_eq, ex_ex, ex_raise, ex_pass, kTry_exc, kTry_nx, kTry_rt, ex_try, kFors_eq, ex_fors, ex_whl, k3stx_eq, kFz_f, k2stx_eq, k1stx_eq, ex_setIx, k2stf_eq, k1stf_eq, ex_setFld, bk_nil, bk_cons, env0, leave_rt, leave_exc, cmpS, cmpop, binop, intsOf, g_true, allF, bindT, wipeE, okd_int, FV.toInt?, d__law_told_of, mn, ln, ct, bmT_count, eq]
    · rw [decide_eq_false c] at eq
      cases d with
      | zero =>
        exfalso
        apply c
        match ns, h2 with
        | [x], _ => simp [Fk.lmin]
      | succ d =>
        have hl : ns.length / 2 = 2 ^ d := by rw [h2, Nat.pow_succ]; omega
        have hp := pow2_pos d
        have q2 : 2 ^ d ≤ 2 ^ 10 := Nat.pow_le_pow_right (by decide) (by omega)
        have eo : toldOf (d + 1) ns = .node (Fk.lmin ns) (toldOf d ((ns.map (· - Fk.lmin ns)).take (ns.length / 2))) (toldOf d ((ns.map (· - Fk.lmin ns)).drop (ns.length / 2))) := by
          rw [toldOf, if_neg c]
        have i1 := fun st => toldOf_ok h__law_told_of W n d ((ns.map (· - Fk.lmin ns)).take (ns.length / 2)) st (by omega) (by rw [List.length_take, List.length_map, hl, h2, Nat.pow_succ]; omega) (by omega)
        have i2 := fun st => toldOf_ok h__law_told_of W n d ((ns.map (· - Fk.lmin ns)).drop (ns.length / 2)) st (by omega) (by rw [List.length_drop, List.length_map, hl, h2, Nat.pow_succ]; omega) (by omega)
        have nn : (0 : Int) ≤ (ns.length : Int) / 2 := by omega
        have tn : ((ns.length : Int) / 2).toNat = ns.length / 2 := by omega
        have c1 := cutTo_nums (ns.map (· - Fk.lmin ns)) _ nn
        have c2 := cutFrom_nums (ns.map (· - Fk.lmin ns)) _ nn
        rw [tn] at c1 c2
        have lc : ∀ (env : Env) (st : Store) (e0 e2 e3 e4 : Option PV), env = [e0, some (.f (.int (Fk.lmin ns))), e2, e3, e4] → lcL (kLcT sub (run sub W P n) (.bin .sub (.v 4) (.v 1)) [4] env) (nums ns) [] st = .ok (nums (ns.map (· - Fk.lmin ns))) st := by
          intro env st e0 e2 e3 e4 he
          subst he
          rw [lcL_map (f := fun x => match x with | .int i => .int (i - Fk.lmin ns) | _ => .non)]
          · simp only [List.nil_append, nums, List.map_map]
            rfl
          · intro x hx
            obtain ⟨q, _, rfl⟩ := List.mem_map.mp hx
            simp [bind_ok, bind_exc, fr_ok, fr_exc, frI_ok, frI_exc, tst_ok, tst_exc, of_some, s_ok, s_exc, sb_nx, sb_rt, sb_exc, so_some, g_true, kGet_some, ev_v, ev_k, k2bin_eq, k1bin_eq, ev_bin, k2cmp_eq, k1cmp_eq, ev_cmp, k2ix_eq, k1ix_eq, ev_ix, k2dget_eq, k1dget_eq, ev_dget, k2din_eq, k1din_eq, ev_din, k2dnot_eq, k1dnot_eq, ev_dnot, k2cutTo_eq, k1cutTo_eq, ev_cutTo, k2cutFrom_eq, k1cutFrom_eq, ev_cutFrom, k1and_eq, ev_and, k1or_eq, ev_or, k1not_eq, ev_not, k1neg_eq, ev_neg, k1ite_eq, ev_ite, k4chain_eq, k3chain_eq, k2chain_eq, k1chain_eq, ev_chain, k1tup_eq, ev_tup, k1lst_eq, ev_lst, k1mlst_eq, ev_mlst, k1mdic_eq, ev_mdic, ev_call, k1blt_eq, ev_blt, k2meth_eq, k1meth_eq, ev_meth, k1make_eq, ev_make, k2make_ok, k2make_exc, k1fld_eq, ev_fld, k1isi_eq, ev_isi, k2bm_eq, k1bm_eq, ev_bm, k3cut_eq, k2cuti_eq, k2cut_eq, k1cut_eq, ev_cut, kElt_f, kLst_eq, kLcB_some, kLcT_eq, kLc_eq, ev_lc, kIfF_eq, kLcIfB_some, kLcIfT_eq, kLcIf_eq, ev_lcIf, k2es_eq, k1es_eq, es_nil, es_cons, kSeq_eq, it_seq, kRange_eq, it_range, k3rangeS_eq, k2rangeS_eq, k1rangeS_eq, it_rangeS, kEnum_lst, kEnum_scr, it_enum, kZip_lst, k1zip_eq, it_zip, kSet_eq, ex_set, kNx_eq, kUnp_f, ex_unp, k2par_eq, k1par_eq, ex_par, k2app_eq, k1app_eq, ex_app, kIf_b, ex_ifs, kRt_eq, ex_ret, kEx_eq, ex_ex, ex_raise, ex_pass, kTry_exc, kTry_nx, kTry_rt, ex_try, kFors_eq, ex_fors, ex_whl, k3stx_eq, kFz_f, k2stx_eq, k1stx_eq, ex_setIx, k2stf_eq, k1stf_eq, ex_setFld, bk_nil, bk_cons, env0, leave_rt, leave_exc, cmpS, cmpop, binop, intsOf, g_true, allF, bindT, wipeE, okd_int, FV.toInt?, bind_ok]
          · rw [nums_length, List.length_nil]
            unfold line
            rw [h2, Nat.pow_succ]
            omega
        have lc' := fun st e0 e2 e3 e4 => lc _ st e0 e2 e3 e4 rfl
        rw [eo, encT_node]
        simp [bind_ok, bind_exc, fr_ok, fr_exc, frI_ok, frI_exc, tst_ok, tst_exc, of_some, s_ok, s_exc, sb_nx, sb_rt, sb_exc, so_some, g_true, kGet_some, ev_v, ev_k, k2bin_eq, k1bin_eq, ev_bin, k2cmp_eq, k1cmp_eq, ev_cmp, k2ix_eq, k1ix_eq, ev_ix, k2dget_eq, k1dget_eq, ev_dget, k2din_eq, k1din_eq, ev_din, k2dnot_eq, k1dnot_eq, ev_dnot, k2cutTo_eq, k1cutTo_eq, ev_cutTo, k2cutFrom_eq, k1cutFrom_eq, ev_cutFrom, k1and_eq, ev_and, k1or_eq, ev_or, k1not_eq, ev_not, k1neg_eq, ev_neg, k1ite_eq, ev_ite, k4chain_eq, k3chain_eq, k2chain_eq, k1chain_eq, ev_chain, k1tup_eq, ev_tup, k1lst_eq, ev_lst, k1mlst_eq, ev_mlst, k1mdic_eq, ev_mdic, ev_call, k1blt_eq, ev_blt, k2meth_eq, k1meth_eq, ev_meth, k1make_eq, ev_make, k2make_ok, k2make_exc, k1fld_eq, ev_fld, k1isi_eq, ev_isi, k2bm_eq, k1bm_eq, ev_bm, k3cut_eq, k2cuti_eq, k2cut_eq, k1cut_eq, ev_cut, kElt_f, kLst_eq, kLcB_some, kLcT_eq, kLc_eq, ev_lc, kIfF_eq, kLcIfB_some, kLcIfT_eq, kLcIf_eq, ev_lcIf, k2es_eq, k1es_eq, es_nil, es_cons, kSeq_eq, it_seq, kRange_eq, it_range, k3rangeS_eq, k2rangeS_eq, k1rangeS_eq, it_rangeS, kEnum_lst, kEnum_scr, it_enum, kZip_lst, k1zip_eq, it_zip, kSet_eq, ex_set, kNx_eq, kUnp_f, ex_unp, k2par_eq, k1par_eq, ex_par, k2app_eq, k1app_eq, ex_app, kIf_b, ex_ifs, kRt_eq, ex_ret, kEx_eq, ex_ex, ex_raise, ex_pass, kTry_exc, kTry_nx, kTry_rt, ex_try, kFors_eq, ex_fors, ex_whl, k3stx_eq, kFz_f, k2stx_eq, k1stx_eq, ex_setIx, k2stf_eq, k1stf_eq, ex_setFld, bk_nil, bk_cons, env0, leave_rt, leave_exc, cmpS, cmpop, binop, intsOf, g_true, allF, bindT, wipeE, okd_int, FV.toInt?, d__law_told_of, mn, ln, ct, bmT_count, eq, c1, c2, seqOf, lc', i1, i2]
end Pl
end MP

namespace MP
namespace Pl
open Fk
/-! loops and lists: what is used by the laws -/
theorem forL_nil (b : FV → Env → Store → SR) (env : Env) (st : Store) : forL b [] env st = .nx env st := rfl
theorem forL_cons (b : FV → Env → Store → SR) (x : FV) (xs : List FV) (env : Env) (st : Store) : forL b (x :: xs) env st = (b x env st).bind (forL b xs) := rfl
theorem forL_inv {b : FV → Env → Store → SR} {I : Env → Store → Prop} : ∀ (xs : List FV) (env : Env) (st : Store), (∀ x ∈ xs, ∀ env st, I env st → ∃ env' st', b x env st = .nx env' st' ∧ I env' st') → I env st → ∃ env' st', forL b xs env st = .nx env' st' ∧ I env' st'
  | [], env, st, _, h => ⟨env, st, rfl, h⟩
  | x :: xs, env, st, hb, h => by
    obtain ⟨e1, s1, q1, i1⟩ := hb x (List.mem_cons_self ..) env st h
    obtain ⟨e2, s2, q2, i2⟩ := forL_inv xs e1 s1 (fun y hy => hb y (List.mem_cons_of_mem _ hy)) i1
    refine ⟨e2, s2, ?_, i2⟩
    rw [forL_cons, q1]
    exact q2
theorem mem_enum : ∀ {xs : List FV} {n : Nat} {y : FV}, y ∈ enumL n xs → ∃ (k : Nat) (x : FV), xs[k]? = some x ∧ y = .tup [.int (n + k : Nat), x]
  | [], _, _, h => by simp [enumL] at h
  | x :: xs, n, y, h => by
    simp only [enumL, List.mem_cons] at h
    rcases h with rfl | h
    · exact ⟨0, x, rfl, rfl⟩
    · obtain ⟨k, z, hz, q⟩ := mem_enum h
      exact ⟨k + 1, z, hz, by rw [q, show n + 1 + k = n + (k + 1) by omega]⟩
theorem mem_nums {x : FV} {ns : List Int} (h : x ∈ nums ns) : ∃ n ∈ ns, x = .int n := by
  obtain ⟨n, hn, rfl⟩ := List.mem_map.mp h
  exact ⟨n, hn, rfl⟩
theorem get_nums {ns : List Int} {k : Nat} {x : FV} (h : (nums ns)[k]? = some x) : ∃ n, ns[k]? = some n ∧ x = .int n := by
  unfold nums at h
  rw [List.getElem?_map] at h
  cases e : ns[k]? with
  | none => rw [e] at h; cases h
  | some n => rw [e] at h; exact ⟨n, rfl, (Option.some.inj h).symm⟩
theorem atIx_nat {α : Type} (xs : List α) (k : Nat) : atIx xs (k : Int) = xs[k]? := by
  unfold atIx
  rw [if_pos (by omega), Int.toNat_natCast]
theorem ix_nums (st : Store) {ns : List Int} {k : Nat} {n : Int} (h : ns[k]? = some n) : ixS st (.f (.lst (nums ns))) (.int (k : Nat)) = some (.f (.int n)) := by
  show (atIx (nums ns) (k : Int)).map PV.f = _
  rw [atIx_nat]
  unfold nums
  rw [List.getElem?_map, h]
  rfl
theorem ix_pair (st : Store) (x y : FV) (i : Int) (h : i = 0 ∨ i = 1) : ixS st (.f (.tup [x, y])) (.int i) = some (.f (if i = 0 then x else y)) := by
  rcases h with rfl | rfl <;> rfl
def enc2 (q : Int × Int) : FV := .tup [.int q.1, .int q.2]
theorem zipL_nums : ∀ a b : List Int, zipL (nums a) (nums b) = (a.zip b).map enc2
  | [], _ => rfl
  | _ :: _, [] => rfl
  | x :: a, y :: b => by
    show FV.tup [.int x, .int y] :: zipL (nums a) (nums b) = _
    rw [zipL_nums a b]
    rfl
theorem all_bls (st : Store) {α : Type} (xs : List α) (p : α → Bool) : bltS st .all [.f (.lst (xs.map fun x => .bl (p x)))] = some (.bl (xs.all p)) := by
  show (allBls (xs.map fun x => .bl (p x))).map _ = _
  have e : ∀ xs : List α, allBls (xs.map fun x => .bl (p x)) = some (xs.map p) := by
    intro xs
    induction xs with
    | nil => rfl
    | cons x xs ih =>
      show (allBls (xs.map fun x => .bl (p x))).map (p x :: ·) = _
      rw [ih]
      rfl
  rw [e]
  show some (FV.bl ((xs.map p).all id)) = _
  rw [List.all_map]
  rfl
theorem scr_add (ns : List Int) (h : ns.length ≤ 63) : binop .add (.scr ns) (.lst [.int 5]) = some (.lst (nums (ns ++ [5]))) := by
  rw [nums_append]
  show g (decide (ns.length + 1 ≤ line)) _ = _
  rw [decide_eq_true (by unfold line; omega)]
  rfl
theorem tup_eqv (a b : Own) : (FV.tup [encO a, encO b]).eqv (.tup [encO a, encO b]) = true := by
  have h := encO_eqv (.node a b) (.node a b)
  simpa [encO_node] using h
theorem tup_okd {a b : Own} (h1 : a.depth ≤ 50) (h2 : b.depth ≤ 50) : (FV.tup [encO a, encO b]).okd = true := encO_okd (o := .node a b) (by simp only [Own.depth]; omega)
end Pl
end MP

namespace MP
def d__law_filled : Def := ⟨2, 5, (.cons (.ifs (.or (.cmp .eq (.v 0) (.k (.int 0))) (.cmp .eq (.bm .count (.v 1) (.cons (.ix (.v 1) (.k (.int 0))) .nil)) (.blt .len (.cons (.v 1) .nil)))) (.cons (.ret (.v 1))
  .nil) .nil)
  (.cons (.ifs (.cmp .eq (.v 0) (.k (.int 1))) (.cons (.ret (.bin .mul (.lst (.cons (.blt .max (.cons (.v 1) .nil)) .nil)) (.blt .len (.cons (.v 1) .nil))))
  .nil) .nil)
  (.cons (.set 2 (.bin .fdiv (.blt .len (.cons (.v 1) .nil)) (.k (.int 2))))
  (.cons (.par 3 4 (.cutTo (.v 1) (.v 2)) (.cutFrom (.v 1) (.v 2)))
  (.cons (.ifs (.cmp .eq (.ix (.v 0) (.k (.int 0))) (.k (.int 1))) (.cons (.set 4 (.call 41 (.cons (.ix (.v 0) (.k (.int 1))) (.cons (.v 4) .nil))))
  (.cons (.set 3 (.bin .mul (.lst (.cons (.blt .max (.cons (.blt .max (.cons (.v 3) .nil)) (.cons (.blt .min (.cons (.v 4) .nil)) .nil))) .nil)) (.v 2)))
  .nil)) (.cons (.ifs (.cmp .eq (.ix (.v 0) (.k (.int 1))) (.k (.int 1))) (.cons (.set 3 (.call 41 (.cons (.ix (.v 0) (.k (.int 0))) (.cons (.v 3) .nil))))
  (.cons (.set 4 (.bin .mul (.lst (.cons (.blt .max (.cons (.blt .max (.cons (.v 4) .nil)) (.cons (.blt .min (.cons (.v 3) .nil)) .nil))) .nil)) (.v 2)))
  .nil)) (.cons (.set 3 (.call 41 (.cons (.ix (.v 0) (.k (.int 0))) (.cons (.v 3) .nil))))
  (.cons (.set 4 (.call 41 (.cons (.ix (.v 0) (.k (.int 1))) (.cons (.v 4) .nil))))
  .nil)))
  .nil))
  (.cons (.ret (.bin .add (.v 3) (.v 4)))
  .nil)))))), true⟩
def d__law_leaves : Def := ⟨4, 7, (.cons (.ifs (.cmp .eq (.v 0) (.k (.int 0))) (.cons (.ret (.lst .nil))
  .nil) .nil)
  (.cons (.ifs (.cmp .eq (.v 0) (.k (.int 1))) (.cons (.ret (.lst (.cons (.tup (.cons (.v 3) (.cons (.v 2) (.cons (.blt .len (.cons (.v 1) .nil)) .nil)))) .nil)))
  .nil) .nil)
  (.cons (.set 4 (.bin .fdiv (.blt .len (.cons (.v 1) .nil)) (.k (.int 2))))
  (.cons (.set 5 (.bin .add (.bin .add (.v 3) (.k (.int 1))) (.bin .mul (.k (.int 1000)) (.blt .int (.cons (.cmp .eq (.bm .count (.v 1) (.cons (.ix (.v 1) (.k (.int 0))) .nil)) (.blt .len (.cons (.v 1) .nil))) .nil)))))
  (.cons (.set 6 (.call 42 (.cons (.ix (.v 0) (.k (.int 0))) (.cons (.cutTo (.v 1) (.v 4)) (.cons (.v 2) (.cons (.v 5) .nil))))))
  (.cons (.ret (.bin .add (.v 6) (.call 42 (.cons (.ix (.v 0) (.k (.int 1))) (.cons (.cutFrom (.v 1) (.v 4)) (.cons (.bin .add (.v 2) (.v 4)) (.cons (.v 5) .nil)))))))
  .nil)))))), true⟩
def d__law_grown : Def := ⟨2, 11, (.cons (.set 2 (.call 42 (.cons (.v 0) (.cons (.v 1) (.cons (.k (.int 0)) (.cons (.k (.int 0)) .nil))))))
  (.cons (.set 3 (.blt .min (.cons (.lc (.ix (.v 4) (.k (.int 0))) [4] (.seq (.v 2))) .nil)))
  (.cons (.unp [5, 6, 7] (.ix (.lcIf (.v 4) [4] (.seq (.v 2)) (.cmp .eq (.ix (.v 4) (.k (.int 0))) (.v 3))) (.neg (.k (.int 1)))))
  (.cons (.set 8 (.mlst .nil))
  (.cons (.fors [9, 10] (.enum (.v 1)) (.cons (.app (.v 8) (.bin .add (.v 10) (.blt .int (.cons (.chain .le .lt (.v 6) (.v 9) (.bin .add (.v 6) (.v 7))) .nil))))
  .nil))
  (.cons (.ret (.v 8))
  .nil)))))), true⟩
def d__law_refused : Def := ⟨1, 3, (.cons (.set 1 (.k .non))
  (.cons (.tryKeep (.cons (.ex (.call 40 (.cons (.k (.int 0)) (.cons (.v 0) .nil))))
  .nil) 10 1 2)
  (.cons (.ret (.cmp .eq (.call 16 (.cons (.v 1) .nil)) (.k (.str [110, 111, 32, 111, 119, 110]))))
  .nil))), true⟩
def d__law_far : Def := ⟨1, 5, (.cons (.unp [1, 2, 3] (.tup (.cons (.k (.int 1)) (.cons (.k (.int 1)) (.cons (.k (.int 2)) .nil)))))
  (.cons (.fors [4] (.range (.bin .add (.k (.int 2)) (.bin .mod (.bin .fdiv (.v 0) (.k (.int 2))) (.k (.int 30))))) (.cons (.set 1 (.tup (.cons (.k (.int 0)) (.cons (.v 1) .nil))))
  (.cons (.set 2 (.tup (.cons (.k (.int 0)) (.cons (.k (.int 0)) (.cons (.v 2) .nil)))))
  (.cons (.set 3 (.tup (.cons (.k (.int 0)) (.cons (.k (.int 0)) (.cons (.v 3) .nil)))))
  .nil))))
  (.cons (.ifs (.cmp .eq (.bin .mod (.v 0) (.k (.int 2))) (.k (.int 0))) (.cons (.ret (.tup (.cons (.tup (.cons (.tup (.cons (.k (.int 0)) (.cons (.k (.int 1)) .nil))) (.cons (.v 1) .nil))) (.cons (.tup (.cons (.k (.int 0)) (.cons (.k (.int 0)) (.cons (.v 2) .nil)))) (.cons (.tup (.cons (.k (.int 0)) (.cons (.k (.int 0)) (.cons (.v 3) .nil)))) .nil)))))
  .nil) .nil)
  (.cons (.ret (.tup (.cons (.tup (.cons (.v 1) (.cons (.tup (.cons (.k (.int 0)) (.cons (.k (.int 1)) .nil))) .nil))) (.cons (.tup (.cons (.k (.int 0)) (.cons (.v 2) (.cons (.k (.int 0)) .nil)))) (.cons (.tup (.cons (.k (.int 0)) (.cons (.v 3) (.cons (.k (.int 0)) .nil)))) .nil)))))
  .nil)))), true⟩
def d_law : Def := ⟨1, 11, (.cons (.fors [1, 2] (.enum (.bin .add (.v 0) (.lst (.cons (.k (.int 5)) .nil)))) (.cons (.set 3 (.call 6 (.cons (.v 2) (.cons (.bin .mod (.v 1) (.k (.int 64))) .nil))))
  (.cons (.set 4 (.call 10 (.cons (.call 9 (.cons (.call 8 (.cons (.v 3) (.cons (.k (.int 3)) .nil))) (.cons (.k (.int 3)) .nil))) .nil)))
  (.cons (.set 5 (.call 28 (.cons (.v 2) (.cons (.call 6 (.cons (.v 2) (.cons (.bin .add (.k (.int 64)) (.bin .mod (.v 1) (.k (.int 64)))) .nil))) (.cons (.k (.int 3)) .nil)))))
  (.cons (.set 6 (.call 29 (.cons (.v 5) (.cons (.k (.int 3)) .nil))))
  (.cons (.ifs (.cmp .eq (.bin .mod (.bin .fdiv (.v 3) (.k (.int 7))) (.k (.int 2))) (.k (.int 1))) (.cons (.set 6 (.call 41 (.cons (.v 4) (.cons (.v 6) .nil))))
  .nil) .nil)
  (.cons (.set 7 (.call 30 (.cons (.v 6) .nil)))
  (.cons (.set 8 (.call 41 (.cons (.v 4) (.cons (.v 6) .nil))))
  (.cons (.ifs (.or (.cmp .ne (.call 36 (.cons (.v 4) (.cons (.v 7) .nil))) (.call 30 (.cons (.v 8) .nil))) (.not (.call 44 (.cons (.v 7) .nil)))) (.cons (.ret (.k (.bl false)))
  .nil) .nil)
  (.cons (.set 9 (.call 45 (.cons (.bin .fdiv (.v 3) (.k (.int 14))) .nil)))
  (.cons (.ifs (.or (.cmp .ne (.call 39 (.cons (.ix (.v 9) (.k (.int 0))) (.cons (.ix (.v 9) (.k (.int 1))) .nil))) (.ix (.v 9) (.k (.int 2)))) (.cmp .ne (.call 40 (.cons (.ix (.v 9) (.k (.int 0))) (.cons (.ix (.v 9) (.k (.int 1))) .nil))) (.ix (.v 9) (.k (.int 2))))) (.cons (.ret (.k (.bl false)))
  .nil) .nil)
  (.cons (.ifs (.cmp .ne (.v 4) (.k (.int 0))) (.cons (.set 10 (.call 30 (.cons (.v 8) .nil)))
  (.cons (.ifs (.cmp .eq (.v 8) (.v 6)) (.cons (.set 10 (.call 30 (.cons (.call 43 (.cons (.v 4) (.cons (.v 6) .nil))) .nil)))
  (.cons (.ifs (.cmp .ne (.call 39 (.cons (.v 4) (.cons (.v 7) .nil))) (.v 10)) (.cons (.ret (.k (.bl false)))
  .nil) .nil)
  .nil)) .nil)
  (.cons (.ifs (.cmp .ne (.call 40 (.cons (.v 4) (.cons (.v 7) .nil))) (.v 10)) (.cons (.ret (.k (.bl false)))
  .nil) .nil)
  .nil))) .nil)
  .nil))))))))))))
  (.cons (.ret (.cmp .eq (.call 40 (.cons (.k (.int 1)) (.cons (.k (.int 0)) .nil))) (.k (.int 1))))
  .nil)), true⟩
def prog : Nat → Option Def
  | 22 => some d_lifted
  | 23 => some d_base
  | 24 => some d_spread
  | 26 => some d_told_least
  | 27 => some d_told_greatest
  | 32 => some d_halves
  | 36 => some d_filled
  | 37 => some d_price
  | 38 => some d_goes_left
  | 39 => some d_grown
  | 40 => some d_raised
  | 6 => some d__law_mixed
  | 8 => some d__law_own
  | 9 => some d__law_places
  | 10 => some d__law_own_of
  | 28 => some d__law_tree
  | 29 => some d__law_numbers
  | 30 => some d__law_told_of
  | 16 => some d__law_word
  | 41 => some d__law_filled
  | 42 => some d__law_leaves
  | 43 => some d__law_grown
  | 44 => some d__law_refused
  | 45 => some d__law_far
  | 12 => some d_law
  | _ => none
def subc : Nat → Nat → Option Bool
  | 14, 10 => some true
  | 14, 11 => some false
  | 14, 12 => some false
  | 14, 13 => some false
  | 14, 14 => some true
  | 14, 15 => some false
  | 14, 16 => some false
  | _, _ => none
theorem sub_exc : ∀ c, subc c 10 = some true → 10 ≤ c := by
  intro c h
  unfold subc at h
  split at h <;> first | omega | (cases h; done) | decide
end MP

namespace MP
namespace Pl
open Fk
theorem okd_nat (n : Nat) : (FV.int n).okd = true := rfl
theorem mul_rep (x : Int) (n : Nat) (h : n ≤ 1000) : binop .mul (.lst [.int x]) (.int (n : Nat)) = some (.lst (nums (List.replicate n x))) := by
  show g (decide (0 ≤ (n : Int) ∧ (n : Int) < 2 ^ 63 ∧ [FV.int x].length * (n : Int).toNat ≤ line)) _ = _
  rw [decide_eq_true (by refine ⟨by omega, by omega, ?_⟩; unfold line; simp; omega)]
  have : ∀ n : Nat, rep [FV.int x] n = nums (List.replicate n x) := by
    intro n
    induction n with
    | zero => rfl
    | succ n ih =>
      show [FV.int x] ++ rep [FV.int x] n = _
      rw [ih, List.replicate_succ]
      rfl
  rw [Int.toNat_natCast, this]
  rfl
theorem ix0_nums (st : Store) {ns : List Int} (h : ns ≠ []) : ixS st (.f (.lst (nums ns))) (.int 0) = some (.f (.int (ns.headD 0))) := by
  cases ns with
  | nil => exact absurd rfl h
  | cons n ns => rfl
theorem add_nums (x y : List Int) (h : x.length + y.length ≤ 2000) : binop .add (.lst (nums x)) (.lst (nums y)) = some (.lst (nums (x ++ y))) := by
  rw [nums_append]
  show g (decide ((nums x).length + (nums y).length ≤ line)) _ = _
  rw [nums_length, nums_length, decide_eq_true (by unfold line; omega)]
  rfl
theorem lf_true (W n : Nat) (d : Nat) (ns : List Int) (st : Store) (hl : ns.length = 2 ^ d) (hd : d ≤ 8) : run subc W prog (n + 1) 41 [.f (encO (.leaf true)), .f (.lst (nums ns))] st = .ok (.f (.lst (nums (lfill (.leaf true) ns)))) st := by
  rw [run_succ (d := d__law_filled) rfl rfl]
  have hne := ne_of_pow hl
  have e : (encO (.leaf true)).eqv (.int 0) = false := rfl
  have e1 : (encO (.leaf true)).eqv (.int 1) = true := rfl
  have ok : (encO (.leaf true)).okd = true := rfl
  have i0 := ix0_nums st hne
  have ct := count_nums ns (ns.headD 0)
  have ln := len_nums st ns
  have mx := max_nums st hne
  have q2 : 2 ^ d ≤ 2 ^ 8 := Nat.pow_le_pow_right (by decide) hd
  have mr := mul_rep (Fk.lmax ns) ns.length (by omega)
  have eq := eqv_nat (ns.count (ns.headD 0)) ns.length
  unfold lfill alike
  generalize ns.headD 0 = x0 at *
  by_cases c : ns.count x0 = ns.length
  · rw [decide_eq_true c] at eq ⊢
    rw [c] at ct eq
    simp [bind_ok, bind_exc, fr_ok, fr_exc, frI_ok, frI_exc, tst_ok, tst_exc, of_some, s_ok, s_exc, sb_nx, sb_rt, sb_exc, so_some, g_true, kGet_some, ev_v, ev_k, k2bin_eq, k1bin_eq, ev_bin, k2cmp_eq, k1cmp_eq, ev_cmp, k2ix_eq, k1ix_eq, ev_ix, k2dget_eq, k1dget_eq, ev_dget, k2din_eq, k1din_eq, ev_din, k2dnot_eq, k1dnot_eq, ev_dnot, k2cutTo_eq, k1cutTo_eq, ev_cutTo, k2cutFrom_eq, k1cutFrom_eq, ev_cutFrom, k1and_eq, ev_and, k1or_eq, ev_or, k1not_eq, ev_not, k1neg_eq, ev_neg, k1ite_eq, ev_ite, k4chain_eq, k3chain_eq, k2chain_eq, k1chain_eq, ev_chain, k1tup_eq, ev_tup, k1lst_eq, ev_lst, k1mlst_eq, ev_mlst, k1mdic_eq, ev_mdic, ev_call, k1blt_eq, ev_blt, k2meth_eq, k1meth_eq, ev_meth, k1make_eq, ev_make, k2make_ok, k2make_exc, k1fld_eq, ev_fld, k1isi_eq, ev_isi, k2bm_eq, k1bm_eq, ev_bm, k3cut_eq, k2cuti_eq, k2cut_eq, k1cut_eq, ev_cut, kElt_f, kLst_eq, kLcB_some, kLcT_eq, kLc_eq, ev_lc, kIfF_eq, kLcIfB_some, kLcIfT_eq, kLcIf_eq, ev_lcIf, k2es_eq, k1es_eq, es_nil, es_cons, kSeq_eq, it_seq, kRange_eq, it_range, k3rangeS_eq, k2rangeS_eq, k1rangeS_eq, it_rangeS, kEnum_lst, kEnum_scr, it_enum, kZip_lst, k1zip_eq, it_zip, kSet_eq, ex_set, kNx_eq, kUnp_f, ex_unp, k2par_eq, k1par_eq, ex_par, k2app_eq, k1app_eq, ex_app, kIf_b, ex_ifs, kRt_eq, ex_ret, kEx_eq, ex_ex, ex_raise, ex_pass, kTry_exc, kTry_nx, kTry_rt, ex_try, kFors_eq, ex_fors, ex_whl, k3stx_eq, kFz_f, k2stx_eq, k1stx_eq, ex_setIx, k2stf_eq, k1stf_eq, ex_setFld, bk_nil, bk_cons, env0, leave_rt, leave_exc, cmpS, cmpop, binop, intsOf, g_true, allF, bindT, wipeE, okd_int, FV.toInt?, d__law_filled, ok, e, e1, i0, ct, ln, eq, bmT_count]
  · rw [decide_eq_false c] at eq ⊢
    simp [bind_ok, bind_exc, fr_ok, fr_exc, frI_ok, frI_exc, tst_ok, tst_exc, of_some, s_ok, s_exc, sb_nx, sb_rt, sb_exc, so_some, g_true, kGet_some, ev_v, ev_k, k2bin_eq, k1bin_eq, ev_bin, k2cmp_eq, k1cmp_eq, ev_cmp, k2ix_eq, k1ix_eq, ev_ix, k2dget_eq, k1dget_eq, ev_dget, k2din_eq, k1din_eq, ev_din, k2dnot_eq, k1dnot_eq, ev_dnot, k2cutTo_eq, k1cutTo_eq, ev_cutTo, k2cutFrom_eq, k1cutFrom_eq, ev_cutFrom, k1and_eq, ev_and, k1or_eq, ev_or, k1not_eq, ev_not, k1neg_eq, ev_neg, k1ite_eq, ev_ite, k4chain_eq, k3chain_eq, k2chain_eq, k1chain_eq, ev_chain, k1tup_eq, ev_tup, k1lst_eq, ev_lst, k1mlst_eq, ev_mlst, k1mdic_eq, ev_mdic, ev_call, k1blt_eq, ev_blt, k2meth_eq, k1meth_eq, ev_meth, k1make_eq, ev_make, k2make_ok, k2make_exc, k1fld_eq, ev_fld, k1isi_eq, ev_isi, k2bm_eq, k1bm_eq, ev_bm, k3cut_eq, k2cuti_eq, k2cut_eq, k1cut_eq, ev_cut, kElt_f, kLst_eq, kLcB_some, kLcT_eq, kLc_eq, ev_lc, kIfF_eq, kLcIfB_some, kLcIfT_eq, kLcIf_eq, ev_lcIf, k2es_eq, k1es_eq, es_nil, es_cons, kSeq_eq, it_seq, kRange_eq, it_range, k3rangeS_eq, k2rangeS_eq, k1rangeS_eq, it_rangeS, kEnum_lst, kEnum_scr, it_enum, kZip_lst, k1zip_eq, it_zip, kSet_eq, ex_set, kNx_eq, kUnp_f, ex_unp, k2par_eq, k1par_eq, ex_par, k2app_eq, k1app_eq, ex_app, kIf_b, ex_ifs, kRt_eq, ex_ret, kEx_eq, ex_ex, ex_raise, ex_pass, kTry_exc, kTry_nx, kTry_rt, ex_try, kFors_eq, ex_fors, ex_whl, k3stx_eq, kFz_f, k2stx_eq, k1stx_eq, ex_setIx, k2stf_eq, k1stf_eq, ex_setFld, bk_nil, bk_cons, env0, leave_rt, leave_exc, cmpS, cmpop, binop, intsOf, g_true, allF, bindT, wipeE, okd_int, FV.toInt?, d__law_filled, ok, e, e1, i0, ct, ln, eq, bmT_count, mx, -binop, mr]
theorem lf_alike (W n : Nat) (a b : Own) (ns : List Int) (st : Store) (h1 : (Own.node a b).depth ≤ 60) (hne : ns ≠ []) (c : ns.count (ns.headD 0) = ns.length) : run subc W prog (n + 1) 41 [.f (encO (.node a b)), .f (.lst (nums ns))] st = .ok (.f (.lst (nums ns))) st := by
  rw [run_succ (d := d__law_filled) rfl rfl]
  have ok := encO_okd h1
  have e0 := eqv0 (.node a b)
  have i0 := ix0_nums st hne
  have ct := count_nums ns (ns.headD 0)
  have ln := len_nums st ns
  have eq := eqv_nat (ns.count (ns.headD 0)) ns.length
  rw [decide_eq_true c] at eq
  rw [c] at ct eq
  generalize ns.headD 0 = x0 at *
  simp [bind_ok, bind_exc, fr_ok, fr_exc, frI_ok, frI_exc, tst_ok, tst_exc, of_some, s_ok, s_exc, sb_nx, sb_rt, sb_exc, so_some, g_true, kGet_some, ev_v, ev_k, k2bin_eq, k1bin_eq, ev_bin, k2cmp_eq, k1cmp_eq, ev_cmp, k2ix_eq, k1ix_eq, ev_ix, k2dget_eq, k1dget_eq, ev_dget, k2din_eq, k1din_eq, ev_din, k2dnot_eq, k1dnot_eq, ev_dnot, k2cutTo_eq, k1cutTo_eq, ev_cutTo, k2cutFrom_eq, k1cutFrom_eq, ev_cutFrom, k1and_eq, ev_and, k1or_eq, ev_or, k1not_eq, ev_not, k1neg_eq, ev_neg, k1ite_eq, ev_ite, k4chain_eq, k3chain_eq, k2chain_eq, k1chain_eq, ev_chain, k1tup_eq, ev_tup, k1lst_eq, ev_lst, k1mlst_eq, ev_mlst, k1mdic_eq, ev_mdic, ev_call, k1blt_eq, ev_blt, k2meth_eq, k1meth_eq, ev_meth, k1make_eq, ev_make, k2make_ok, k2make_exc, k1fld_eq, ev_fld, k1isi_eq, ev_isi, k2bm_eq, k1bm_eq, ev_bm, k3cut_eq, k2cuti_eq, k2cut_eq, k1cut_eq, ev_cut, kElt_f, kLst_eq, kLcB_some, kLcT_eq, kLc_eq, ev_lc, kIfF_eq, kLcIfB_some, kLcIfT_eq, kLcIf_eq, ev_lcIf, k2es_eq, k1es_eq, es_nil, es_cons, kSeq_eq, it_seq, kRange_eq, it_range, k3rangeS_eq, k2rangeS_eq, k1rangeS_eq, it_rangeS, kEnum_lst, kEnum_scr, it_enum, kZip_lst, k1zip_eq, it_zip, kSet_eq, ex_set, kNx_eq, kUnp_f, ex_unp, k2par_eq, k1par_eq, ex_par, k2app_eq, k1app_eq, ex_app, kIf_b, ex_ifs, kRt_eq, ex_ret, kEx_eq, ex_ex, ex_raise, ex_pass, kTry_exc, kTry_nx, kTry_rt, ex_try, kFors_eq, ex_fors, ex_whl, k3stx_eq, kFz_f, k2stx_eq, k1stx_eq, ex_setIx, k2stf_eq, k1stf_eq, ex_setFld, bk_nil, bk_cons, env0, leave_rt, leave_exc, cmpS, cmpop, binop, intsOf, g_true, allF, bindT, wipeE, okd_int, FV.toInt?, d__law_filled, ok, e0, i0, ct, ln, eq, bmT_count]
theorem lf_node (W n k : Nat) (a b : Own) (ns x y x' y' : List Int) (x0 : Int) (st : Store) (h1 : (Own.node a b).depth ≤ 60) (i0 : ixS st (.f (.lst (nums ns))) (.int 0) = some (.f (.int x0))) (c : ¬ ns.count x0 = ns.length) (hk : ns.length / 2 = k) (k8 : k ≤ 256)
    (hx : ns.take k = x) (hy : ns.drop k = y) (lx : x.length = k) (ly : y.length = k) (lx' : x'.length = k) (ly' : y'.length = k) (nx : x ≠ []) (ny : y ≠ []) (nx' : x' ≠ []) (ny' : y' ≠ [])
    (i1 : ∀ st, run subc W prog n 41 [.f (encO a), .f (.lst (nums x))] st = .ok (.f (.lst (nums x'))) st) (i2 : ∀ st, run subc W prog n 41 [.f (encO b), .f (.lst (nums y))] st = .ok (.f (.lst (nums y'))) st) :
    run subc W prog (n + 1) 41 [.f (encO (.node a b)), .f (.lst (nums ns))] st = .ok (.f (.lst (nums (if a = .leaf true then List.replicate k (max (Fk.lmax x) (Fk.lmin y')) ++ y' else if b = .leaf true then x' ++ List.replicate k (max (Fk.lmax y) (Fk.lmin x')) else x' ++ y')))) st := by
  rw [run_succ (d := d__law_filled) rfl rfl]
  have ok := encO_okd h1
  have e0 := eqv0 (.node a b)
  have e1 := eqv1 (.node a b)
  have ct := count_nums ns x0
  have ln := len_nums st ns
  have eq := eqv_nat (ns.count x0) ns.length
  rw [decide_eq_false c] at eq
  rw [encO_node] at ok e0 e1 ⊢
  simp only [Own.depth] at h1
  have nn : (0 : Int) ≤ (ns.length : Int) / 2 := by omega
  have tn : ((ns.length : Int) / 2).toNat = k := by omega
  have hc : (ns.length : Int) / 2 = (k : Int) := by omega
  have c1 := cutTo_nums ns _ nn
  have c2 := cutFrom_nums ns _ nn
  rw [tn, hx] at c1
  rw [tn, hy] at c2
  rw [hc] at c1 c2
  have oka : (encO a).okd = true := encO_okd (by omega)
  have okb : (encO b).okd = true := encO_okd (by omega)
  have ea := eqv1 a
  have eb := eqv1 b
  have m1 := max_nums st nx
  have m2 := max_nums st ny
  have m3 := min_nums st nx'
  have m4 := min_nums st ny'
  have hf : binop .fdiv (.int (ns.length : Nat)) (.int 2) = some (.int ((ns.length : Int) / 2)) := rfl
  rw [hc] at hf
  have mxi : ∀ i j, bltS st .max [.f (.int i), .f (.int j)] = some (.int (max i j)) := fun _ _ => rfl
  have two : ∀ (x y : FV) (st : Store), ixS st (.f (.tup [x, y])) (.int 0) = some (.f x) ∧ ixS st (.f (.tup [x, y])) (.int 1) = some (.f y) := fun _ _ _ => ⟨rfl, rfl⟩
  by_cases q1 : a = .leaf true
  · rw [if_pos q1]
    rw [decide_eq_true q1] at ea
    have mr := mul_rep (max (Fk.lmax x) (Fk.lmin y')) k (by omega)
    have ad := add_nums (List.replicate k (max (Fk.lmax x) (Fk.lmin y'))) y' (by rw [List.length_replicate]; omega)
    simp [bind_ok, bind_exc, fr_ok, fr_exc, frI_ok, frI_exc, tst_ok, tst_exc, of_some, s_ok, s_exc, sb_nx, sb_rt, sb_exc, so_some, g_true, kGet_some, ev_v, ev_k, k2bin_eq, k1bin_eq, ev_bin, k2cmp_eq, k1cmp_eq, ev_cmp, k2ix_eq, k1ix_eq, ev_ix, k2dget_eq, k1dget_eq, ev_dget, k2din_eq, k1din_eq, ev_din, k2dnot_eq, k1dnot_eq, ev_dnot, k2cutTo_eq, k1cutTo_eq, ev_cutTo, k2cutFrom_eq, k1cutFrom_eq, ev_cutFrom, k1and_eq, ev_and, k1or_eq, ev_or, k1not_eq, ev_not, k1neg_eq, ev_neg, k1ite_eq, ev_ite, k4chain_eq, k3chain_eq, k2chain_eq, k1chain_eq, ev_chain, k1tup_eq, ev_tup, k1lst_eq, ev_lst, k1mlst_eq, ev_mlst, k1mdic_eq, ev_mdic, ev_call, k1blt_eq, ev_blt, k2meth_eq, k1meth_eq, ev_meth, k1make_eq, ev_make, k2make_ok, k2make_exc, k1fld_eq, ev_fld, k1isi_eq, ev_isi, k2bm_eq, k1bm_eq, ev_bm, k3cut_eq, k2cuti_eq, k2cut_eq, k1cut_eq, ev_cut, kElt_f, kLst_eq, kLcB_some, kLcT_eq, kLc_eq, ev_lc, kIfF_eq, kLcIfB_some, kLcIfT_eq, kLcIf_eq, ev_lcIf, k2es_eq, k1es_eq, es_nil, es_cons, kSeq_eq, it_seq, kRange_eq, it_range, k3rangeS_eq, k2rangeS_eq, k1rangeS_eq, it_rangeS, kEnum_lst, kEnum_scr, it_enum, kZip_lst, k1zip_eq, it_zip, kSet_eq, ex_set, kNx_eq, kUnp_f, ex_unp, k2par_eq, k1par_eq, ex_par, k2app_eq, k1app_eq, ex_app, kIf_b, ex_ifs, kRt_eq, ex_ret, kEx_eq, ex_ex, ex_raise, ex_pass, kTry_exc, kTry_nx, kTry_rt, ex_try, kFors_eq, ex_fors, ex_whl, k3stx_eq, kFz_f, k2stx_eq, k1stx_eq, ex_setIx, k2stf_eq, k1stf_eq, ex_setFld, bk_nil, bk_cons, env0, leave_rt, leave_exc, cmpS, cmpop, binop, intsOf, g_true, allF, bindT, wipeE, okd_int, FV.toInt?, d__law_filled, ok, e0, e1, i0, ct, ln, eq, bmT_count, two, oka, okb, ea, eb, -binop, hf, c1, c2, i2, m1, m4, mr, ad, mxi]
  · rw [if_neg q1]
    rw [decide_eq_false q1] at ea
    by_cases q3 : b = .leaf true
    · rw [if_pos q3]
      rw [decide_eq_true q3] at eb
      have mr := mul_rep (max (Fk.lmax y) (Fk.lmin x')) k (by omega)
      have ad := add_nums x' (List.replicate k (max (Fk.lmax y) (Fk.lmin x'))) (by rw [List.length_replicate]; omega)
      simp [bind_ok, bind_exc, fr_ok, fr_exc, frI_ok, frI_exc, tst_ok, tst_exc, of_some, s_ok, s_exc, sb_nx, sb_rt, sb_exc, so_some, g_true, kGet_some, ev_v, ev_k, k2bin_eq, k1bin_eq, ev_bin, k2cmp_eq, k1cmp_eq, ev_cmp, k2ix_eq, k1ix_eq, ev_ix, k2dget_eq, k1dget_eq, ev_dget, k2din_eq, k1din_eq, ev_din, k2dnot_eq, k1dnot_eq, ev_dnot, k2cutTo_eq, k1cutTo_eq, ev_cutTo, k2cutFrom_eq, k1cutFrom_eq, ev_cutFrom, k1and_eq, ev_and, k1or_eq, ev_or, k1not_eq, ev_not, k1neg_eq, ev_neg, k1ite_eq, ev_ite, k4chain_eq, k3chain_eq, k2chain_eq, k1chain_eq, ev_chain, k1tup_eq, ev_tup, k1lst_eq, ev_lst, k1mlst_eq, ev_mlst, k1mdic_eq, ev_mdic, ev_call, k1blt_eq, ev_blt, k2meth_eq, k1meth_eq, ev_meth, k1make_eq, ev_make, k2make_ok, k2make_exc, k1fld_eq, ev_fld, k1isi_eq, ev_isi, k2bm_eq, k1bm_eq, ev_bm, k3cut_eq, k2cuti_eq, k2cut_eq, k1cut_eq, ev_cut, kElt_f, kLst_eq, kLcB_some, kLcT_eq, kLc_eq, ev_lc, kIfF_eq, kLcIfB_some, kLcIfT_eq, kLcIf_eq, ev_lcIf, k2es_eq, k1es_eq, es_nil, es_cons, kSeq_eq, it_seq, kRange_eq, it_range, k3rangeS_eq, k2rangeS_eq, k1rangeS_eq, it_rangeS, kEnum_lst, kEnum_scr, it_enum, kZip_lst, k1zip_eq, it_zip, kSet_eq, ex_set, kNx_eq, kUnp_f, ex_unp, k2par_eq, k1par_eq, ex_par, k2app_eq, k1app_eq, ex_app, kIf_b, ex_ifs, kRt_eq, ex_ret, kEx_eq, ex_ex, ex_raise, ex_pass, kTry_exc, kTry_nx, kTry_rt, ex_try, kFors_eq, ex_fors, ex_whl, k3stx_eq, kFz_f, k2stx_eq, k1stx_eq, ex_setIx, k2stf_eq, k1stf_eq, ex_setFld, bk_nil, bk_cons, env0, leave_rt, leave_exc, cmpS, cmpop, binop, intsOf, g_true, allF, bindT, wipeE, okd_int, FV.toInt?, d__law_filled, ok, e0, e1, i0, ct, ln, eq, bmT_count, two, oka, okb, ea, eb, -binop, hf, c1, c2, i1, m2, m3, mr, ad, mxi]
    · rw [if_neg q3]
      rw [decide_eq_false q3] at eb
      have ad := add_nums x' y' (by omega)
      simp [bind_ok, bind_exc, fr_ok, fr_exc, frI_ok, frI_exc, tst_ok, tst_exc, of_some, s_ok, s_exc, sb_nx, sb_rt, sb_exc, so_some, g_true, kGet_some, ev_v, ev_k, k2bin_eq, k1bin_eq, ev_bin, k2cmp_eq, k1cmp_eq, ev_cmp, k2ix_eq, k1ix_eq, ev_ix, k2dget_eq, k1dget_eq, ev_dget, k2din_eq, k1din_eq, ev_din, k2dnot_eq, k1dnot_eq, ev_dnot, k2cutTo_eq, k1cutTo_eq, ev_cutTo, k2cutFrom_eq, k1cutFrom_eq, ev_cutFrom, k1and_eq, ev_and, k1or_eq, ev_or, k1not_eq, ev_not, k1neg_eq, ev_neg, k1ite_eq, ev_ite, k4chain_eq, k3chain_eq, k2chain_eq, k1chain_eq, ev_chain, k1tup_eq, ev_tup, k1lst_eq, ev_lst, k1mlst_eq, ev_mlst, k1mdic_eq, ev_mdic, ev_call, k1blt_eq, ev_blt, k2meth_eq, k1meth_eq, ev_meth, k1make_eq, ev_make, k2make_ok, k2make_exc, k1fld_eq, ev_fld, k1isi_eq, ev_isi, k2bm_eq, k1bm_eq, ev_bm, k3cut_eq, k2cuti_eq, k2cut_eq, k1cut_eq, ev_cut, kElt_f, kLst_eq, kLcB_some, kLcT_eq, kLc_eq, ev_lc, kIfF_eq, kLcIfB_some, kLcIfT_eq, kLcIf_eq, ev_lcIf, k2es_eq, k1es_eq, es_nil, es_cons, kSeq_eq, it_seq, kRange_eq, it_range, k3rangeS_eq, k2rangeS_eq, k1rangeS_eq, it_rangeS, kEnum_lst, kEnum_scr, it_enum, kZip_lst, k1zip_eq, it_zip, kSet_eq, ex_set, kNx_eq, kUnp_f, ex_unp, k2par_eq, k1par_eq, ex_par, k2app_eq, k1app_eq, ex_app, kIf_b, ex_ifs, kRt_eq, ex_ret, kEx_eq, ex_ex, ex_raise, ex_pass, kTry_exc, kTry_nx, kTry_rt, ex_try, kFors_eq, ex_fors, ex_whl, k3stx_eq, kFz_f, k2stx_eq, k1stx_eq, ex_setIx, k2stf_eq, k1stf_eq, ex_setFld, bk_nil, bk_cons, env0, leave_rt, leave_exc, cmpS, cmpop, binop, intsOf, g_true, allF, bindT, wipeE, okd_int, FV.toInt?, d__law_filled, ok, e0, e1, i0, ct, ln, eq, bmT_count, two, oka, okb, ea, eb, -binop, hf, c1, c2, i1, i2, ad]
end Pl
end MP

namespace MP
namespace Pl
open Fk
theorem lfilled_ok (W : Nat) : ∀ (n : Nat) (o : Own) (d : Nat) (ns : List Int) (st : Store), d < n → o.depth ≤ 60 → ns.length = 2 ^ d → d ≤ 8 → run subc W prog n 41 [.f (encO o), .f (.lst (nums ns))] st = .ok (.f (.lst (nums (lfill o ns)))) st
  | 0, _, _, _, _, h, _, _, _ => absurd h (Nat.not_lt_zero _)
  | n + 1, .leaf false, d, ns, st, h, h1, hl, hd => by
    rw [run_succ (d := d__law_filled) rfl rfl]
    have e : (encO (.leaf false)).eqv (.int 0) = true := rfl
    simp [bind_ok, bind_exc, fr_ok, fr_exc, frI_ok, frI_exc, tst_ok, tst_exc, of_some, s_ok, s_exc, sb_nx, sb_rt, sb_exc, so_some, g_true, kGet_some, ev_v, ev_k, k2bin_eq, k1bin_eq, ev_bin, k2cmp_eq, k1cmp_eq, ev_cmp, k2ix_eq, k1ix_eq, ev_ix, k2dget_eq, k1dget_eq, ev_dget, k2din_eq, k1din_eq, ev_din, k2dnot_eq, k1dnot_eq, ev_dnot, k2cutTo_eq, k1cutTo_eq, ev_cutTo, k2cutFrom_eq, k1cutFrom_eq, ev_cutFrom, k1and_eq, ev_and, k1or_eq, ev_or, k1not_eq, ev_not, k1neg_eq, ev_neg, k1ite_eq, ev_ite, k4chain_eq, k3chain_eq, k2chain_eq, k1chain_eq, ev_chain, k1tup_eq, ev_tup, k1lst_eq, ev_lst, k1mlst_eq, ev_mlst, k1mdic_eq, ev_mdic, ev_call, k1blt_eq, ev_blt, k2meth_eq, k1meth_eq, ev_meth, k1make_eq, ev_make, k2make_ok, k2make_exc, k1fld_eq, ev_fld, k1isi_eq, ev_isi, k2bm_eq, k1bm_eq, ev_bm, k3cut_eq, k2cuti_eq, k2cut_eq, k1cut_eq, ev_cut, kElt_f, kLst_eq, kLcB_some, kLcT_eq, kLc_eq, ev_lc, kIfF_eq, kLcIfB_some, kLcIfT_eq, kLcIf_eq, ev_lcIf, k2es_eq, k1es_eq, es_nil, es_cons, kSeq_eq, it_seq, kRange_eq, it_range, k3rangeS_eq, k2rangeS_eq, k1rangeS_eq, it_rangeS, kEnum_lst, kEnum_scr, it_enum, kZip_lst, k1zip_eq, it_zip, kSet_eq, ex_set, kNx_eq, kUnp_f, ex_unp, k2par_eq, k1par_eq, ex_par, k2app_eq, k1app_eq, ex_app, kIf_b, ex_ifs, kRt_eq, ex_ret, kEx_eq, ex_ex, ex_raise, ex_pass, kTry_exc, kTry_nx, kTry_rt, ex_try, kFors_eq, ex_fors, ex_whl, k3stx_eq, kFz_f, k2stx_eq, k1stx_eq, ex_setIx, k2stf_eq, k1stf_eq, ex_setFld, bk_nil, bk_cons, env0, leave_rt, leave_exc, cmpS, cmpop, binop, intsOf, g_true, allF, bindT, wipeE, okd_int, FV.toInt?, d__law_filled, encO_okd h1, e, lfill]
  | n + 1, .leaf true, d, ns, st, h, h1, hl, hd => lf_true W n d ns st hl hd
  | n + 1, .node a b, d, ns, st, h, h1, hl, hd => by
    have hne := ne_of_pow hl
    by_cases c : ns.count (ns.headD 0) = ns.length
    · have e : lfill (.node a b) ns = ns := by unfold lfill alike; rw [if_pos (decide_eq_true c)]
      rw [e]
      exact lf_alike W n a b ns st h1 hne c
    · cases d with
      | zero =>
        exfalso
        have := alike_one hl
        unfold alike at this
        exact c (of_decide_eq_true this)
      | succ d =>
        have hd' := h1
        simp only [Own.depth] at hd'
        have hh : ns.length / 2 = 2 ^ d := by rw [hl, Nat.pow_succ]; omega
        have q2 : 2 ^ d ≤ 2 ^ 8 := Nat.pow_le_pow_right (by decide) (by omega)
        have hl1 : (ns.take (2 ^ d)).length = 2 ^ d := by rw [List.length_take, hl, Nat.pow_succ]; omega
        have hl2 : (ns.drop (2 ^ d)).length = 2 ^ d := by rw [List.length_drop, hl, Nat.pow_succ]; omega
        have f1 := lfill_length a d _ hl1
        have f2 := lfill_length b d _ hl2
        have e : lfill (.node a b) ns = if a = .leaf true then List.replicate (2 ^ d) (max (Fk.lmax (ns.take (2 ^ d))) (Fk.lmin (lfill b (ns.drop (2 ^ d))))) ++ lfill b (ns.drop (2 ^ d)) else if b = .leaf true then lfill a (ns.take (2 ^ d)) ++ List.replicate (2 ^ d) (max (Fk.lmax (ns.drop (2 ^ d))) (Fk.lmin (lfill a (ns.take (2 ^ d))))) else lfill a (ns.take (2 ^ d)) ++ lfill b (ns.drop (2 ^ d)) := by
          rw [lfill, if_neg (by unfold alike; rw [decide_eq_false c]; decide), hh]
        rw [e]
        exact lf_node W n (2 ^ d) a b ns _ _ _ _ (ns.headD 0) st h1 (ix0_nums st hne) c hh q2 rfl rfl hl1 hl2 f1 f2 (ne_of_pow hl1) (ne_of_pow hl2) (ne_of_pow f1) (ne_of_pow f2)
          (fun st => lfilled_ok W n a d _ st (by omega) (by omega) hl1 (by omega)) (fun st => lfilled_ok W n b d _ st (by omega) (by omega) hl2 (by omega))
def enc3 (q : Int × Int × Int) : FV := .tup [.int q.1, .int q.2.1, .int q.2.2]
theorem lv_node (W n k : Nat) (a b : Own) (ns : List Int) (x0 at' pd : Int) (A B : List (Int × Int × Int)) (st : Store) (h1 : (Own.node a b).depth ≤ 60) (i0 : ixS st (.f (.lst (nums ns))) (.int 0) = some (.f (.int x0))) (hk : ns.length / 2 = k) (z : Int) (hz : z = if ns.count x0 = ns.length then 1 else 0) (hl : A.length + B.length ≤ line)
    (i1 : ∀ st, run subc W prog n 42 [.f (encO a), .f (.lst (nums (ns.take k))), .f (.int at'), .f (.int (pd + 1 + 1000 * z))] st = .ok (.f (.lst (A.map enc3))) st) (i2 : ∀ st, run subc W prog n 42 [.f (encO b), .f (.lst (nums (ns.drop k))), .f (.int (at' + (k : Nat))), .f (.int (pd + 1 + 1000 * z))] st = .ok (.f (.lst (B.map enc3))) st) :
    run subc W prog (n + 1) 42 [.f (encO (.node a b)), .f (.lst (nums ns)), .f (.int at'), .f (.int pd)] st = .ok (.f (.lst ((A ++ B).map enc3))) st := by
  rw [run_succ (d := d__law_leaves) rfl rfl]
  have ok := encO_okd h1
  have e0 := eqv0 (.node a b)
  have e1 := eqv1 (.node a b)
  have ct := count_nums ns x0
  have ln := len_nums st ns
  have eq := eqv_nat (ns.count x0) ns.length
  rw [encO_node] at ok e0 e1 ⊢
  have nn : (0 : Int) ≤ (ns.length : Int) / 2 := by omega
  have tn : ((ns.length : Int) / 2).toNat = k := by omega
  have hc : (ns.length : Int) / 2 = (k : Int) := by omega
  have c1 := cutTo_nums ns _ nn
  have c2 := cutFrom_nums ns _ nn
  rw [tn] at c1 c2
  rw [hc] at c1 c2
  have two : ∀ (x y : FV) (st : Store), ixS st (.f (.tup [x, y])) (.int 0) = some (.f x) ∧ ixS st (.f (.tup [x, y])) (.int 1) = some (.f y) := fun _ _ _ => ⟨rfl, rfl⟩
  have bi0 : bltS st .int [.f (.bl (decide (ns.count x0 = ns.length)))] = some (.int z) := by
    rw [hz]
    by_cases q : ns.count x0 = ns.length
    · rw [decide_eq_true q, if_pos q]; rfl
    · rw [decide_eq_false q, if_neg q]; rfl
  have hf : binop .fdiv (.int (ns.length : Nat)) (.int 2) = some (.int ((ns.length : Int) / 2)) := rfl
  rw [hc] at hf
  have ai : ∀ i j : Int, binop .add (.int i) (.int j) = some (.int (i + j)) := fun _ _ => rfl
  have mi : binop .mul (.int 1000) (.int z) = some (.int (1000 * z)) := by
    show g (cmul 1000 z) _ = _
    have : cmul 1000 z = true := by unfold cmul; simp
    rw [this]
    rfl
  have al : binop .add (.lst (A.map enc3)) (.lst (B.map enc3)) = some (.lst ((A ++ B).map enc3)) := by
    show g (decide ((A.map enc3).length + (B.map enc3).length ≤ line)) _ = _
    rw [List.length_map, List.length_map, decide_eq_true hl, List.map_append]
    rfl
  rw [List.map_append] at al ⊢
  simp [bind_ok, bind_exc, fr_ok, fr_exc, frI_ok, frI_exc, tst_ok, tst_exc, of_some, s_ok, s_exc, sb_nx, sb_rt, sb_exc, so_some, g_true, kGet_some, ev_v, ev_k, k2bin_eq, k1bin_eq, ev_bin, k2cmp_eq, k1cmp_eq, ev_cmp, k2ix_eq, k1ix_eq, ev_ix, k2dget_eq, k1dget_eq, ev_dget, k2din_eq, k1din_eq, ev_din, k2dnot_eq, k1dnot_eq, ev_dnot, k2cutTo_eq, k1cutTo_eq, ev_cutTo, k2cutFrom_eq, k1cutFrom_eq, ev_cutFrom, k1and_eq, ev_and, k1or_eq, ev_or, k1not_eq, ev_not, k1neg_eq, ev_neg, k1ite_eq, ev_ite, k4chain_eq, k3chain_eq, k2chain_eq, k1chain_eq, ev_chain, k1tup_eq, ev_tup, k1lst_eq, ev_lst, k1mlst_eq, ev_mlst, k1mdic_eq, ev_mdic, ev_call, k1blt_eq, ev_blt, k2meth_eq, k1meth_eq, ev_meth, k1make_eq, ev_make, k2make_ok, k2make_exc, k1fld_eq, ev_fld, k1isi_eq, ev_isi, k2bm_eq, k1bm_eq, ev_bm, k3cut_eq, k2cuti_eq, k2cut_eq, k1cut_eq, ev_cut, kElt_f, kLst_eq, kLcB_some, kLcT_eq, kLc_eq, ev_lc, kIfF_eq, kLcIfB_some, kLcIfT_eq, kLcIf_eq, ev_lcIf, k2es_eq, k1es_eq, es_nil, es_cons, kSeq_eq, it_seq, kRange_eq, it_range, k3rangeS_eq, k2rangeS_eq, k1rangeS_eq, it_rangeS, kEnum_lst, kEnum_scr, it_enum, kZip_lst, k1zip_eq, it_zip, kSet_eq, ex_set, kNx_eq, kUnp_f, ex_unp, k2par_eq, k1par_eq, ex_par, k2app_eq, k1app_eq, ex_app, kIf_b, ex_ifs, kRt_eq, ex_ret, kEx_eq, ex_ex, ex_raise, ex_pass, kTry_exc, kTry_nx, kTry_rt, ex_try, kFors_eq, ex_fors, ex_whl, k3stx_eq, kFz_f, k2stx_eq, k1stx_eq, ex_setIx, k2stf_eq, k1stf_eq, ex_setFld, bk_nil, bk_cons, env0, leave_rt, leave_exc, cmpS, cmpop, binop, intsOf, g_true, allF, bindT, wipeE, okd_int, FV.toInt?, d__law_leaves, ok, e0, e1, i0, ct, ln, eq, bmT_count, two, c1, c2, bi0, hf, ai, mi, -binop, i1, i2, al]
theorem leaves_ok (W : Nat) : ∀ (n : Nat) (o : Own) (d : Nat) (ns : List Int) (at' pd : Int) (st : Store), o.depth < n → o.depth ≤ d → ns.length = 2 ^ d → d ≤ 8 → run subc W prog n 42 [.f (encO o), .f (.lst (nums ns)), .f (.int at'), .f (.int pd)] st = .ok (.f (.lst ((lleaves o ns at' pd).map enc3))) st
  | 0, _, _, _, _, _, _, h, _, _, _ => absurd h (Nat.not_lt_zero _)
  | n + 1, .leaf false, d, ns, at', pd, st, h, h1, hl, hd => by
    rw [run_succ (d := d__law_leaves) rfl rfl]
    have e : (encO (.leaf false)).eqv (.int 0) = true := rfl
    have ok : (encO (.leaf false)).okd = true := rfl
    simp [bind_ok, bind_exc, fr_ok, fr_exc, frI_ok, frI_exc, tst_ok, tst_exc, of_some, s_ok, s_exc, sb_nx, sb_rt, sb_exc, so_some, g_true, kGet_some, ev_v, ev_k, k2bin_eq, k1bin_eq, ev_bin, k2cmp_eq, k1cmp_eq, ev_cmp, k2ix_eq, k1ix_eq, ev_ix, k2dget_eq, k1dget_eq, ev_dget, k2din_eq, k1din_eq, ev_din, k2dnot_eq, k1dnot_eq, ev_dnot, k2cutTo_eq, k1cutTo_eq, ev_cutTo, k2cutFrom_eq, k1cutFrom_eq, ev_cutFrom, k1and_eq, ev_and, k1or_eq, ev_or, k1not_eq, ev_not, k1neg_eq, ev_neg, k1ite_eq, ev_ite, k4chain_eq, k3chain_eq, k2chain_eq, k1chain_eq, ev_chain, k1tup_eq, ev_tup, k1lst_eq, ev_lst, k1mlst_eq, ev_mlst, k1mdic_eq, ev_mdic, ev_call, k1blt_eq, ev_blt, k2meth_eq, k1meth_eq, ev_meth, k1make_eq, ev_make, k2make_ok, k2make_exc, k1fld_eq, ev_fld, k1isi_eq, ev_isi, k2bm_eq, k1bm_eq, ev_bm, k3cut_eq, k2cuti_eq, k2cut_eq, k1cut_eq, ev_cut, kElt_f, kLst_eq, kLcB_some, kLcT_eq, kLc_eq, ev_lc, kIfF_eq, kLcIfB_some, kLcIfT_eq, kLcIf_eq, ev_lcIf, k2es_eq, k1es_eq, es_nil, es_cons, kSeq_eq, it_seq, kRange_eq, it_range, k3rangeS_eq, k2rangeS_eq, k1rangeS_eq, it_rangeS, kEnum_lst, kEnum_scr, it_enum, kZip_lst, k1zip_eq, it_zip, kSet_eq, ex_set, kNx_eq, kUnp_f, ex_unp, k2par_eq, k1par_eq, ex_par, k2app_eq, k1app_eq, ex_app, kIf_b, ex_ifs, kRt_eq, ex_ret, kEx_eq, ex_ex, ex_raise, ex_pass, kTry_exc, kTry_nx, kTry_rt, ex_try, kFors_eq, ex_fors, ex_whl, k3stx_eq, kFz_f, k2stx_eq, k1stx_eq, ex_setIx, k2stf_eq, k1stf_eq, ex_setFld, bk_nil, bk_cons, env0, leave_rt, leave_exc, cmpS, cmpop, binop, intsOf, g_true, allF, bindT, wipeE, okd_int, FV.toInt?, d__law_leaves, ok, e, lleaves]
  | n + 1, .leaf true, d, ns, at', pd, st, h, h1, hl, hd => by
    rw [run_succ (d := d__law_leaves) rfl rfl]
    have e : (encO (.leaf true)).eqv (.int 0) = false := rfl
    have e1 : (encO (.leaf true)).eqv (.int 1) = true := rfl
    have ok : (encO (.leaf true)).okd = true := rfl
    have ln := len_nums st ns
    simp [bind_ok, bind_exc, fr_ok, fr_exc, frI_ok, frI_exc, tst_ok, tst_exc, of_some, s_ok, s_exc, sb_nx, sb_rt, sb_exc, so_some, g_true, kGet_some, ev_v, ev_k, k2bin_eq, k1bin_eq, ev_bin, k2cmp_eq, k1cmp_eq, ev_cmp, k2ix_eq, k1ix_eq, ev_ix, k2dget_eq, k1dget_eq, ev_dget, k2din_eq, k1din_eq, ev_din, k2dnot_eq, k1dnot_eq, ev_dnot, k2cutTo_eq, k1cutTo_eq, ev_cutTo, k2cutFrom_eq, k1cutFrom_eq, ev_cutFrom, k1and_eq, ev_and, k1or_eq, ev_or, k1not_eq, ev_not, k1neg_eq, ev_neg, k1ite_eq, ev_ite, k4chain_eq, k3chain_eq, k2chain_eq, k1chain_eq, ev_chain, k1tup_eq, ev_tup, k1lst_eq, ev_lst, k1mlst_eq, ev_mlst, k1mdic_eq, ev_mdic, ev_call, k1blt_eq, ev_blt, k2meth_eq, k1meth_eq, ev_meth, k1make_eq, ev_make, k2make_ok, k2make_exc, k1fld_eq, ev_fld, k1isi_eq, ev_isi, k2bm_eq, k1bm_eq, ev_bm, k3cut_eq, k2cuti_eq, k2cut_eq, k1cut_eq, ev_cut, kElt_f, kLst_eq, kLcB_some, kLcT_eq, kLc_eq, ev_lc, kIfF_eq, kLcIfB_some, kLcIfT_eq, kLcIf_eq, ev_lcIf, k2es_eq, k1es_eq, es_nil, es_cons, kSeq_eq, it_seq, kRange_eq, it_range, k3rangeS_eq, k2rangeS_eq, k1rangeS_eq, it_rangeS, kEnum_lst, kEnum_scr, it_enum, kZip_lst, k1zip_eq, it_zip, kSet_eq, ex_set, kNx_eq, kUnp_f, ex_unp, k2par_eq, k1par_eq, ex_par, k2app_eq, k1app_eq, ex_app, kIf_b, ex_ifs, kRt_eq, ex_ret, kEx_eq, ex_ex, ex_raise, ex_pass, kTry_exc, kTry_nx, kTry_rt, ex_try, kFors_eq, ex_fors, ex_whl, k3stx_eq, kFz_f, k2stx_eq, k1stx_eq, ex_setIx, k2stf_eq, k1stf_eq, ex_setFld, bk_nil, bk_cons, env0, leave_rt, leave_exc, cmpS, cmpop, binop, intsOf, g_true, allF, bindT, wipeE, okd_int, FV.toInt?, d__law_leaves, ok, e, e1, ln, lleaves, enc3]
  | n + 1, .node a b, 0, ns, at', pd, st, h, h1, hl, hd => by simp [Own.depth] at h1
  | n + 1, .node a b, d + 1, ns, at', pd, st, h, h1, hl, hd => by
    have h1' := h1
    simp only [Own.depth] at h h1'
    have hne := ne_of_pow hl
    have hh : ns.length / 2 = 2 ^ d := by rw [hl, Nat.pow_succ]; omega
    have hl1 : (ns.take (2 ^ d)).length = 2 ^ d := by rw [List.length_take, hl, Nat.pow_succ]; omega
    have hl2 : (ns.drop (2 ^ d)).length = 2 ^ d := by rw [List.length_drop, hl, Nat.pow_succ]; omega
    have q1 := lleaves_length a
    have q2 := lleaves_length b
    have p1 : 2 ^ a.depth ≤ 2 ^ 8 := Nat.pow_le_pow_right (by decide) (by omega)
    have p2 : 2 ^ b.depth ≤ 2 ^ 8 := Nat.pow_le_pow_right (by decide) (by omega)
    unfold lleaves
    rw [hh]
    have ez : (if alike ns = true then (1 : Int) else 0) = if ns.count (ns.headD 0) = ns.length then 1 else 0 := by
      unfold alike
      by_cases q : ns.count (ns.headD 0) = ns.length
      · rw [decide_eq_true q, if_pos rfl, if_pos q]
      · rw [decide_eq_false q, if_neg (by decide), if_neg q]
    refine lv_node W n (2 ^ d) a b ns (ns.headD 0) at' pd _ _ st (by omega) (ix0_nums st hne) hh (if alike ns = true then 1 else 0) ez ?_ (fun st => leaves_ok W n a d _ _ _ st (by omega) (by omega) hl1 (by omega)) (fun st => leaves_ok W n b d _ _ _ st (by omega) (by omega) hl2 (by omega))
    have r1 := q1 (ns.take (2 ^ d)) at' (pd + 1 + 1000 * (if alike ns = true then 1 else 0))
    have r2 := q2 (ns.drop (2 ^ d)) (at' + (2 ^ d : Nat)) (pd + 1 + 1000 * (if alike ns = true then 1 else 0))
    unfold line
    omega
theorem refused_ok (W n : Nat) (t : Told) (st : Store) : run subc W prog (n + 2) 44 [.f (encT t)] st = .ok (.f (.bl true)) st := by
  rw [run_succ (d := d__law_refused) rfl rfl]
  have i1 := fun st => raised0_ok (sub := subc) (P := prog) rfl W n t st
  have i2 := fun st => word_ok (sub := subc) (P := prog) rfl W n 14 st (by decide) (by decide) rfl (fun k h1 h2 => by
    obtain rfl | rfl | rfl | rfl | rfl | rfl : k = 11 ∨ k = 12 ∨ k = 13 ∨ k = 14 ∨ k = 15 ∨ k = 16 := by omega
    all_goals rfl) rfl
  have s14 : subc 14 10 = some true := rfl
  have ok : (FV.str (wordOf 14)).okd = true := rfl
  have ok2 : (FV.str [110, 111, 32, 111, 119, 110]).okd = true := rfl
  have eq : (FV.str (wordOf 14)).eqv (.str [110, 111, 32, 111, 119, 110]) = true := rfl
  simp [bind_ok, bind_exc, fr_ok, fr_exc, frI_ok, frI_exc, tst_ok, tst_exc, of_some, s_ok, s_exc, sb_nx, sb_rt, sb_exc, so_some, g_true, kGet_some, ev_v, ev_k, k2bin_eq, k1bin_eq, ev_bin, k2cmp_eq, k1cmp_eq, ev_cmp, k2ix_eq, k1ix_eq, ev_ix, k2dget_eq, k1dget_eq, ev_dget, k2din_eq, k1din_eq, ev_din, k2dnot_eq, k1dnot_eq, ev_dnot, k2cutTo_eq, k1cutTo_eq, ev_cutTo, k2cutFrom_eq, k1cutFrom_eq, ev_cutFrom, k1and_eq, ev_and, k1or_eq, ev_or, k1not_eq, ev_not, k1neg_eq, ev_neg, k1ite_eq, ev_ite, k4chain_eq, k3chain_eq, k2chain_eq, k1chain_eq, ev_chain, k1tup_eq, ev_tup, k1lst_eq, ev_lst, k1mlst_eq, ev_mlst, k1mdic_eq, ev_mdic, ev_call, k1blt_eq, ev_blt, k2meth_eq, k1meth_eq, ev_meth, k1make_eq, ev_make, k2make_ok, k2make_exc, k1fld_eq, ev_fld, k1isi_eq, ev_isi, k2bm_eq, k1bm_eq, ev_bm, k3cut_eq, k2cuti_eq, k2cut_eq, k1cut_eq, ev_cut, kElt_f, kLst_eq, kLcB_some, kLcT_eq, kLc_eq, ev_lc, kIfF_eq, kLcIfB_some, kLcIfT_eq, kLcIf_eq, ev_lcIf, k2es_eq, k1es_eq, es_nil, es_cons, kSeq_eq, it_seq, kRange_eq, it_range, k3rangeS_eq, k2rangeS_eq, k1rangeS_eq, it_rangeS, kEnum_lst, kEnum_scr, it_enum, kZip_lst, k1zip_eq, it_zip, kSet_eq, ex_set, kNx_eq, kUnp_f, ex_unp, k2par_eq, k1par_eq, ex_par, k2app_eq, k1app_eq, ex_app, kIf_b, ex_ifs, kRt_eq, ex_ret, kEx_eq, ex_ex, ex_raise, ex_pass, kTry_exc, kTry_nx, kTry_rt, ex_try, kFors_eq, ex_fors, ex_whl, k3stx_eq, kFz_f, k2stx_eq, k1stx_eq, ex_setIx, k2stf_eq, k1stf_eq, ex_setFld, bk_nil, bk_cons, env0, leave_rt, leave_exc, cmpS, cmpop, binop, intsOf, g_true, allF, bindT, wipeE, okd_int, FV.toInt?, d__law_refused, i1, i2, s14, ok, ok2, eq]
end Pl
end MP

namespace MP
namespace Pl
open Fk
open Classical in
theorem leave_new {d : Def} {st : Store} (h : d.pure = true) (vs : List FV) : leave d st (.rt (.r st.length) (st ++ [.lst (vs.map .f)])) = .ok (.f (.lst vs)) st := by
  have ha : ∀ vs : List FV, allF (vs.map .f) = some vs := by
    intro vs
    induction vs with
    | nil => rfl
    | cons v vs ih =>
      show (allF (vs.map .f)).map (v :: ·) = _
      rw [ih]
      rfl
  show (if d.pure = true then (if (st ++ [Obj.lst (vs.map .f)]).take st.length = st ∧ st.length ≤ st.length then (match (st ++ [Obj.lst (vs.map .f)])[st.length]? with
      | some (.lst xs) => R.of ((allF xs).map fun fs => PV.f (.lst fs)) st
      | some (.ins c xs) => R.of ((allF xs).map fun fs => PV.f (.ins c fs)) st
      | _ => R.bad) else R.bad) else _) = _
  rw [if_pos h, if_pos ⟨List.take_left, Nat.le_refl _⟩]
  have : (st ++ [Obj.lst (vs.map .f)])[st.length]? = some (.lst (vs.map .f)) := by simp
  rw [this]
  show R.of ((allF (vs.map .f)).map fun fs => PV.f (.lst fs)) st = _
  rw [ha]
  rfl
theorem isLst_new (st : Store) (xs : List PV) : isLst (st ++ [.lst xs]) (.r st.length) = true := by
  show (match (st ++ [Obj.lst xs])[st.length]? with | some (.lst xs) => _ | _ => _) = _
  have : (st ++ [Obj.lst xs])[st.length]? = some (.lst xs) := by simp
  rw [this]
theorem appS_new (st : Store) (xs : List PV) (w : PV) (h : xs.length < 1000000) : appS (st ++ [.lst xs]) (.r st.length) w = some (st ++ [.lst (xs ++ [w])]) := by
  show (match (st ++ [Obj.lst xs])[st.length]? with | some (.lst xs) => g (decide (xs.length < line)) ((st ++ [Obj.lst _]).set st.length (.lst (xs ++ [w]))) | _ => _) = _
  have : (st ++ [Obj.lst xs])[st.length]? = some (.lst xs) := by simp
  rw [this]
  show g (decide (xs.length < line)) _ = _
  rw [decide_eq_true (show xs.length < line from h)]
  simp [g]
theorem atIx_last {α : Type} (xs : List α) (x : α) : atIx (xs ++ [x]) (-1) = some x := by
  unfold atIx
  rw [if_neg (by decide), if_pos (by rw [List.length_append, List.length_singleton]; omega)]
  rw [show ((-1 : Int) + ((xs ++ [x]).length : Int)).toNat = xs.length by rw [List.length_append, List.length_singleton]; omega]
  simp
def growB : Bk := match d__law_grown.body with
  | .cons _ (.cons _ (.cons _ (.cons _ (.cons (.fors _ _ b) _)))) => b
  | _ => .nil
theorem grow_turn (W n : Nat) (k o s : Nat) (v : Int) (acc : List FV) (e0 e1 e2 e3 e4 e5 e9 e10 : Option PV) (st : Store) (h : acc.length < 1000000) :
    kFor subc (run subc W prog n) W [9, 10] growB (.tup [.int k, .int v]) [e0, e1, e2, e3, e4, e5, some (.f (.int (o : Nat))), some (.f (.int (s : Nat))), some (.r st.length), e9, e10] (st ++ [.lst (acc.map .f)]) =
      .nx [e0, e1, e2, e3, e4, e5, some (.f (.int (o : Nat))), some (.f (.int (s : Nat))), some (.r st.length), some (.f (.int k)), some (.f (.int v))] (st ++ [.lst ((acc ++ [FV.int (v + if o ≤ k ∧ k < o + s then 1 else 0)]).map .f)]) := by
  have il := isLst_new st (acc.map .f)
  have ap := appS_new st (acc.map .f) (.f (.int (v + if o ≤ k ∧ k < o + s then 1 else 0))) (by rw [List.length_map]; exact h)
  have e : (acc ++ [FV.int (v + if o ≤ k ∧ k < o + s then 1 else 0)]).map PV.f = acc.map PV.f ++ [.f (.int (v + if o ≤ k ∧ k < o + s then 1 else 0))] := by rw [List.map_append]; rfl
  rw [e]
  have b0 : ∀ st, bltS st .int [.f (.bl false)] = some (.int 0) := fun _ => rfl
  have b1 : ∀ st, bltS st .int [.f (.bl true)] = some (.int 1) := fun _ => rfl
  have c1 : ((o : Int) ≤ k) = (o ≤ k) := by apply propext; omega
  have c2 : ((k : Int) < o + s) = (k < o + s) := by apply propext; omega
  by_cases q1 : o ≤ k
  · by_cases q2 : k < o + s
    · rw [if_pos ⟨q1, q2⟩] at ap ⊢
      simp only [bind_ok, bind_exc, fr_ok, fr_exc, frI_ok, frI_exc, tst_ok, tst_exc, of_some, s_ok, s_exc, sb_nx, sb_rt, sb_exc, so_some, g_true, kGet_some, ev_v, ev_k, k2bin_eq, k1bin_eq, ev_bin, k2cmp_eq, k1cmp_eq, ev_cmp, k2ix_eq, k1ix_eq, ev_ix, k2dget_eq, k1dget_eq, ev_dget, k2din_eq, k1din_eq, ev_din, k2dnot_eq, k1dnot_eq, ev_dnot, k2cutTo_eq, k1cutTo_eq, ev_cutTo, k2cutFrom_eq, k1cutFrom_eq, ev_cutFrom, k1and_eq, ev_and, k1or_eq, ev_or, k1not_eq, ev_not, k1neg_eq, ev_neg, k1ite_eq, ev_ite, k4chain_eq, k3chain_eq, k2chain_eq, k1chain_eq, ev_chain, k1tup_eq, ev_tup, k1lst_eq, ev_lst, k1mlst_eq, ev_mlst, k1mdic_eq, ev_mdic, ev_call, k1blt_eq, ev_blt, k2meth_eq, k1meth_eq, ev_meth, k1make_eq, ev_make, k2make_ok, k2make_exc, k1fld_eq, ev_fld, k1isi_eq, ev_isi, k2bm_eq, k1bm_eq, ev_bm, k3cut_eq, k2cuti_eq, k2cut_eq, k1cut_eq, ev_cut, kElt_f, kLst_eq, kLcB_some, kLcT_eq, kLc_eq, ev_lc, kIfF_eq, kLcIfB_some, kLcIfT_eq, kLcIf_eq, ev_lcIf, k2es_eq, k1es_eq, es_nil, es_cons, kSeq_eq, it_seq, kRange_eq, it_range, k3rangeS_eq, k2rangeS_eq, k1rangeS_eq, it_rangeS, kEnum_lst, kEnum_scr, it_enum, kZip_lst, k1zip_eq, it_zip, kSet_eq, ex_set, kNx_eq, kUnp_f, ex_unp, k2par_eq, k1par_eq, ex_par, k2app_eq, k1app_eq, ex_app, kIf_b, ex_ifs, kRt_eq, ex_ret, kEx_eq, ex_ex, ex_raise, ex_pass, kTry_exc, kTry_nx, kTry_rt, ex_try, kFors_eq, ex_fors, ex_whl, k3stx_eq, kFz_f, k2stx_eq, k1stx_eq, ex_setIx, k2stf_eq, k1stf_eq, ex_setFld, bk_nil, bk_cons, env0, leave_rt, leave_exc, cmpS, cmpop, binop, intsOf, g_true, allF, bindT, wipeE, okd_int, FV.toInt?, growB, d__law_grown]
      simp [bind_ok, bind_exc, fr_ok, fr_exc, frI_ok, frI_exc, tst_ok, tst_exc, of_some, s_ok, s_exc, sb_nx, sb_rt, sb_exc, so_some, g_true, kGet_some, ev_v, ev_k, k2bin_eq, k1bin_eq, ev_bin, k2cmp_eq, k1cmp_eq, ev_cmp, k2ix_eq, k1ix_eq, ev_ix, k2dget_eq, k1dget_eq, ev_dget, k2din_eq, k1din_eq, ev_din, k2dnot_eq, k1dnot_eq, ev_dnot, k2cutTo_eq, k1cutTo_eq, ev_cutTo, k2cutFrom_eq, k1cutFrom_eq, ev_cutFrom, k1and_eq, ev_and, k1or_eq, ev_or, k1not_eq, ev_not, k1neg_eq, ev_neg, k1ite_eq, ev_ite, k4chain_eq, k3chain_eq, k2chain_eq, k1chain_eq, ev_chain, k1tup_eq, ev_tup, k1lst_eq, ev_lst, k1mlst_eq, ev_mlst, k1mdic_eq, ev_mdic, ev_call, k1blt_eq, ev_blt, k2meth_eq, k1meth_eq, ev_meth, k1make_eq, ev_make, k2make_ok, k2make_exc, k1fld_eq, ev_fld, k1isi_eq, ev_isi, k2bm_eq, k1bm_eq, ev_bm, k3cut_eq, k2cuti_eq, k2cut_eq, k1cut_eq, ev_cut, kElt_f, kLst_eq, kLcB_some, kLcT_eq, kLc_eq, ev_lc, kIfF_eq, kLcIfB_some, kLcIfT_eq, kLcIf_eq, ev_lcIf, k2es_eq, k1es_eq, es_nil, es_cons, kSeq_eq, it_seq, kRange_eq, it_range, k3rangeS_eq, k2rangeS_eq, k1rangeS_eq, it_rangeS, kEnum_lst, kEnum_scr, it_enum, kZip_lst, k1zip_eq, it_zip, kSet_eq, ex_set, kNx_eq, kUnp_f, ex_unp, k2par_eq, k1par_eq, ex_par, k2app_eq, k1app_eq, ex_app, kIf_b, ex_ifs, kRt_eq, ex_ret, kEx_eq, ex_ex, ex_raise, ex_pass, kTry_exc, kTry_nx, kTry_rt, ex_try, kFors_eq, ex_fors, ex_whl, k3stx_eq, kFz_f, k2stx_eq, k1stx_eq, ex_setIx, k2stf_eq, k1stf_eq, ex_setFld, bk_nil, bk_cons, env0, leave_rt, leave_exc, cmpS, cmpop, binop, intsOf, g_true, allF, bindT, wipeE, okd_int, FV.toInt?, kFor_eq, il, ap, b0, b1, c1, c2, q1, q2]
    · rw [if_neg (fun q => q2 q.2), Int.add_zero] at ap ⊢
      simp only [bind_ok, bind_exc, fr_ok, fr_exc, frI_ok, frI_exc, tst_ok, tst_exc, of_some, s_ok, s_exc, sb_nx, sb_rt, sb_exc, so_some, g_true, kGet_some, ev_v, ev_k, k2bin_eq, k1bin_eq, ev_bin, k2cmp_eq, k1cmp_eq, ev_cmp, k2ix_eq, k1ix_eq, ev_ix, k2dget_eq, k1dget_eq, ev_dget, k2din_eq, k1din_eq, ev_din, k2dnot_eq, k1dnot_eq, ev_dnot, k2cutTo_eq, k1cutTo_eq, ev_cutTo, k2cutFrom_eq, k1cutFrom_eq, ev_cutFrom, k1and_eq, ev_and, k1or_eq, ev_or, k1not_eq, ev_not, k1neg_eq, ev_neg, k1ite_eq, ev_ite, k4chain_eq, k3chain_eq, k2chain_eq, k1chain_eq, ev_chain, k1tup_eq, ev_tup, k1lst_eq, ev_lst, k1mlst_eq, ev_mlst, k1mdic_eq, ev_mdic, ev_call, k1blt_eq, ev_blt, k2meth_eq, k1meth_eq, ev_meth, k1make_eq, ev_make, k2make_ok, k2make_exc, k1fld_eq, ev_fld, k1isi_eq, ev_isi, k2bm_eq, k1bm_eq, ev_bm, k3cut_eq, k2cuti_eq, k2cut_eq, k1cut_eq, ev_cut, kElt_f, kLst_eq, kLcB_some, kLcT_eq, kLc_eq, ev_lc, kIfF_eq, kLcIfB_some, kLcIfT_eq, kLcIf_eq, ev_lcIf, k2es_eq, k1es_eq, es_nil, es_cons, kSeq_eq, it_seq, kRange_eq, it_range, k3rangeS_eq, k2rangeS_eq, k1rangeS_eq, it_rangeS, kEnum_lst, kEnum_scr, it_enum, kZip_lst, k1zip_eq, it_zip, kSet_eq, ex_set, kNx_eq, kUnp_f, ex_unp, k2par_eq, k1par_eq, ex_par, k2app_eq, k1app_eq, ex_app, kIf_b, ex_ifs, kRt_eq, ex_ret, kEx_eq, ex_ex, ex_raise, ex_pass, kTry_exc, kTry_nx, kTry_rt, ex_try, kFors_eq, ex_fors, ex_whl, k3stx_eq, kFz_f, k2stx_eq, k1stx_eq, ex_setIx, k2stf_eq, k1stf_eq, ex_setFld, bk_nil, bk_cons, env0, leave_rt, leave_exc, cmpS, cmpop, binop, intsOf, g_true, allF, bindT, wipeE, okd_int, FV.toInt?, growB, d__law_grown]
      simp [bind_ok, bind_exc, fr_ok, fr_exc, frI_ok, frI_exc, tst_ok, tst_exc, of_some, s_ok, s_exc, sb_nx, sb_rt, sb_exc, so_some, g_true, kGet_some, ev_v, ev_k, k2bin_eq, k1bin_eq, ev_bin, k2cmp_eq, k1cmp_eq, ev_cmp, k2ix_eq, k1ix_eq, ev_ix, k2dget_eq, k1dget_eq, ev_dget, k2din_eq, k1din_eq, ev_din, k2dnot_eq, k1dnot_eq, ev_dnot, k2cutTo_eq, k1cutTo_eq, ev_cutTo, k2cutFrom_eq, k1cutFrom_eq, ev_cutFrom, k1and_eq, ev_and, k1or_eq, ev_or, k1not_eq, ev_not, k1neg_eq, ev_neg, k1ite_eq, ev_ite, k4chain_eq, k3chain_eq, k2chain_eq, k1chain_eq, ev_chain, k1tup_eq, ev_tup, k1lst_eq, ev_lst, k1mlst_eq, ev_mlst, k1mdic_eq, ev_mdic, ev_call, k1blt_eq, ev_blt, k2meth_eq, k1meth_eq, ev_meth, k1make_eq, ev_make, k2make_ok, k2make_exc, k1fld_eq, ev_fld, k1isi_eq, ev_isi, k2bm_eq, k1bm_eq, ev_bm, k3cut_eq, k2cuti_eq, k2cut_eq, k1cut_eq, ev_cut, kElt_f, kLst_eq, kLcB_some, kLcT_eq, kLc_eq, ev_lc, kIfF_eq, kLcIfB_some, kLcIfT_eq, kLcIf_eq, ev_lcIf, k2es_eq, k1es_eq, es_nil, es_cons, kSeq_eq, it_seq, kRange_eq, it_range, k3rangeS_eq, k2rangeS_eq, k1rangeS_eq, it_rangeS, kEnum_lst, kEnum_scr, it_enum, kZip_lst, k1zip_eq, it_zip, kSet_eq, ex_set, kNx_eq, kUnp_f, ex_unp, k2par_eq, k1par_eq, ex_par, k2app_eq, k1app_eq, ex_app, kIf_b, ex_ifs, kRt_eq, ex_ret, kEx_eq, ex_ex, ex_raise, ex_pass, kTry_exc, kTry_nx, kTry_rt, ex_try, kFors_eq, ex_fors, ex_whl, k3stx_eq, kFz_f, k2stx_eq, k1stx_eq, ex_setIx, k2stf_eq, k1stf_eq, ex_setFld, bk_nil, bk_cons, env0, leave_rt, leave_exc, cmpS, cmpop, binop, intsOf, g_true, allF, bindT, wipeE, okd_int, FV.toInt?, kFor_eq, il, ap, b0, b1, c1, c2, q1, q2]
  · rw [if_neg (fun q => q1 q.1), Int.add_zero] at ap ⊢
    simp only [bind_ok, bind_exc, fr_ok, fr_exc, frI_ok, frI_exc, tst_ok, tst_exc, of_some, s_ok, s_exc, sb_nx, sb_rt, sb_exc, so_some, g_true, kGet_some, ev_v, ev_k, k2bin_eq, k1bin_eq, ev_bin, k2cmp_eq, k1cmp_eq, ev_cmp, k2ix_eq, k1ix_eq, ev_ix, k2dget_eq, k1dget_eq, ev_dget, k2din_eq, k1din_eq, ev_din, k2dnot_eq, k1dnot_eq, ev_dnot, k2cutTo_eq, k1cutTo_eq, ev_cutTo, k2cutFrom_eq, k1cutFrom_eq, ev_cutFrom, k1and_eq, ev_and, k1or_eq, ev_or, k1not_eq, ev_not, k1neg_eq, ev_neg, k1ite_eq, ev_ite, k4chain_eq, k3chain_eq, k2chain_eq, k1chain_eq, ev_chain, k1tup_eq, ev_tup, k1lst_eq, ev_lst, k1mlst_eq, ev_mlst, k1mdic_eq, ev_mdic, ev_call, k1blt_eq, ev_blt, k2meth_eq, k1meth_eq, ev_meth, k1make_eq, ev_make, k2make_ok, k2make_exc, k1fld_eq, ev_fld, k1isi_eq, ev_isi, k2bm_eq, k1bm_eq, ev_bm, k3cut_eq, k2cuti_eq, k2cut_eq, k1cut_eq, ev_cut, kElt_f, kLst_eq, kLcB_some, kLcT_eq, kLc_eq, ev_lc, kIfF_eq, kLcIfB_some, kLcIfT_eq, kLcIf_eq, ev_lcIf, k2es_eq, k1es_eq, es_nil, es_cons, kSeq_eq, it_seq, kRange_eq, it_range, k3rangeS_eq, k2rangeS_eq, k1rangeS_eq, it_rangeS, kEnum_lst, kEnum_scr, it_enum, kZip_lst, k1zip_eq, it_zip, kSet_eq, ex_set, kNx_eq, kUnp_f, ex_unp, k2par_eq, k1par_eq, ex_par, k2app_eq, k1app_eq, ex_app, kIf_b, ex_ifs, kRt_eq, ex_ret, kEx_eq, ex_ex, ex_raise, ex_pass, kTry_exc, kTry_nx, kTry_rt, ex_try, kFors_eq, ex_fors, ex_whl, k3stx_eq, kFz_f, k2stx_eq, k1stx_eq, ex_setIx, k2stf_eq, k1stf_eq, ex_setFld, bk_nil, bk_cons, env0, leave_rt, leave_exc, cmpS, cmpop, binop, intsOf, g_true, allF, bindT, wipeE, okd_int, FV.toInt?, growB, d__law_grown]
    simp [bind_ok, bind_exc, fr_ok, fr_exc, frI_ok, frI_exc, tst_ok, tst_exc, of_some, s_ok, s_exc, sb_nx, sb_rt, sb_exc, so_some, g_true, kGet_some, ev_v, ev_k, k2bin_eq, k1bin_eq, ev_bin, k2cmp_eq, k1cmp_eq, ev_cmp, k2ix_eq, k1ix_eq, ev_ix, k2dget_eq, k1dget_eq, ev_dget, k2din_eq, k1din_eq, ev_din, k2dnot_eq, k1dnot_eq, ev_dnot, k2cutTo_eq, k1cutTo_eq, ev_cutTo, k2cutFrom_eq, k1cutFrom_eq, ev_cutFrom, k1and_eq, ev_and, k1or_eq, ev_or, k1not_eq, ev_not, k1neg_eq, ev_neg, k1ite_eq, ev_ite, k4chain_eq, k3chain_eq, k2chain_eq, k1chain_eq, ev_chain, k1tup_eq, ev_tup, k1lst_eq, ev_lst, k1mlst_eq, ev_mlst, k1mdic_eq, ev_mdic, ev_call, k1blt_eq, ev_blt, k2meth_eq, k1meth_eq, ev_meth, k1make_eq, ev_make, k2make_ok, k2make_exc, k1fld_eq, ev_fld, k1isi_eq, ev_isi, k2bm_eq, k1bm_eq, ev_bm, k3cut_eq, k2cuti_eq, k2cut_eq, k1cut_eq, ev_cut, kElt_f, kLst_eq, kLcB_some, kLcT_eq, kLc_eq, ev_lc, kIfF_eq, kLcIfB_some, kLcIfT_eq, kLcIf_eq, ev_lcIf, k2es_eq, k1es_eq, es_nil, es_cons, kSeq_eq, it_seq, kRange_eq, it_range, k3rangeS_eq, k2rangeS_eq, k1rangeS_eq, it_rangeS, kEnum_lst, kEnum_scr, it_enum, kZip_lst, k1zip_eq, it_zip, kSet_eq, ex_set, kNx_eq, kUnp_f, ex_unp, k2par_eq, k1par_eq, ex_par, k2app_eq, k1app_eq, ex_app, kIf_b, ex_ifs, kRt_eq, ex_ret, kEx_eq, ex_ex, ex_raise, ex_pass, kTry_exc, kTry_nx, kTry_rt, ex_try, kFors_eq, ex_fors, ex_whl, k3stx_eq, kFz_f, k2stx_eq, k1stx_eq, ex_setIx, k2stf_eq, k1stf_eq, ex_setFld, bk_nil, bk_cons, env0, leave_rt, leave_exc, cmpS, cmpop, binop, intsOf, g_true, allF, bindT, wipeE, okd_int, FV.toInt?, kFor_eq, il, ap, b0, b1, c1, c2, q1]
theorem grow_loop (W n o s : Nat) (e0 e1 e2 e3 e4 e5 : Option PV) (st : Store) : ∀ (ns : List Int) (k : Nat) (acc : List FV) (e9 e10 : Option PV), acc.length + ns.length ≤ 100000 → ∃ f9 f10,
    forL (kFor subc (run subc W prog n) W [9, 10] growB) (enumL k (nums ns)) [e0, e1, e2, e3, e4, e5, some (.f (.int (o : Nat))), some (.f (.int (s : Nat))), some (.r st.length), e9, e10] (st ++ [.lst (acc.map .f)]) =
      .nx [e0, e1, e2, e3, e4, e5, some (.f (.int (o : Nat))), some (.f (.int (s : Nat))), some (.r st.length), f9, f10] (st ++ [.lst ((acc ++ nums (bump o s k ns)).map .f)])
  | [], k, acc, e9, e10, h => ⟨e9, e10, by rw [show acc ++ nums (bump o s k []) = acc from List.append_nil _]; rfl⟩
  | v :: ns, k, acc, e9, e10, h => by
    simp only [List.length_cons] at h
    have t := grow_turn W n k o s v acc e0 e1 e2 e3 e4 e5 e9 e10 st (by omega)
    obtain ⟨f9, f10, i⟩ := grow_loop W n o s e0 e1 e2 e3 e4 e5 st ns (k + 1) (acc ++ [FV.int (v + if o ≤ k ∧ k < o + s then 1 else 0)]) (some (.f (.int k))) (some (.f (.int v))) (by rw [List.length_append, List.length_singleton]; omega)
    refine ⟨f9, f10, ?_⟩
    show forL _ (.tup [.int k, .int v] :: enumL (k + 1) (nums ns)) _ _ = _
    rw [forL_cons, t, sb_nx, i, List.append_assoc]
    rfl
theorem lgrown_ok (W n : Nat) (o : Own) (d : Nat) (ns : List Int) (st : Store) (h : o.depth < n) (h1 : o.depth ≤ d) (hl : ns.length = 2 ^ d) (hd : d ≤ 8) (hz : o ≠ .leaf false) (hn : o.Nf) :
    run subc W prog (n + 1) 43 [.f (encO o), .f (.lst (nums ns))] st = .ok (.f (.lst (nums (bump (pick o d ns).1 (pick o d ns).2 0 ns)))) st := by
  have lv := fun st => leaves_ok W n o d ns 0 0 st h h1 hl hd
  have bst := best_pick o d ns 0 0 h1 hl hz hn
  have ll := lleaves_length o ns 0 0
  have p2 : 2 ^ o.depth ≤ 2 ^ 8 := Nat.pow_le_pow_right (by decide) (by omega)
  have p3 : 2 ^ d ≤ 2 ^ 8 := Nat.pow_le_pow_right (by decide) hd
  have hne : lleaves o ns 0 0 ≠ [] := by
    obtain ⟨L', L'', e, _⟩ := bst
    rw [e]
    simp
  rw [Int.zero_add] at bst
  rw [Int.zero_add] at bst
  generalize (pick o d ns).1 = po at *
  generalize (pick o d ns).2 = ps at *
  generalize Told.price o (toldOf d ns) = pr at *
  generalize lleaves o ns 0 0 = L at *
  have hmin := bst.min
  obtain ⟨M, hM⟩ := bst.filter
  have lc1 : ∀ (st : Store) (e0 e1 e2 e3 e4 e5 e6 e7 e8 e9 e10 : Option PV), lcL (kLcT subc (run subc W prog n) (.ix (.v 4) (.k (.int 0))) [4] [e0, e1, e2, e3, e4, e5, e6, e7, e8, e9, e10]) (L.map enc3) [] st = .ok (nums (L.map (·.1))) st := by
    intro st e0 e1 e2 e3 e4 e5 e6 e7 e8 e9 e10
    rw [lcL_map (f := fun x => match x with | .tup (.int i :: _) => .int i | _ => .non)]
    · simp only [List.nil_append, nums, List.map_map]
      rfl
    · intro x hx
      obtain ⟨q, _, rfl⟩ := List.mem_map.mp hx
      simp [bind_ok, bind_exc, fr_ok, fr_exc, frI_ok, frI_exc, tst_ok, tst_exc, of_some, s_ok, s_exc, sb_nx, sb_rt, sb_exc, so_some, g_true, kGet_some, ev_v, ev_k, k2bin_eq, k1bin_eq, ev_bin, k2cmp_eq, k1cmp_eq, ev_cmp, k2ix_eq, k1ix_eq, ev_ix, k2dget_eq, k1dget_eq, ev_dget, k2din_eq, k1din_eq, ev_din, k2dnot_eq, k1dnot_eq, ev_dnot, k2cutTo_eq, k1cutTo_eq, ev_cutTo, k2cutFrom_eq, k1cutFrom_eq, ev_cutFrom, k1and_eq, ev_and, k1or_eq, ev_or, k1not_eq, ev_not, k1neg_eq, ev_neg, k1ite_eq, ev_ite, k4chain_eq, k3chain_eq, k2chain_eq, k1chain_eq, ev_chain, k1tup_eq, ev_tup, k1lst_eq, ev_lst, k1mlst_eq, ev_mlst, k1mdic_eq, ev_mdic, ev_call, k1blt_eq, ev_blt, k2meth_eq, k1meth_eq, ev_meth, k1make_eq, ev_make, k2make_ok, k2make_exc, k1fld_eq, ev_fld, k1isi_eq, ev_isi, k2bm_eq, k1bm_eq, ev_bm, k3cut_eq, k2cuti_eq, k2cut_eq, k1cut_eq, ev_cut, kElt_f, kLst_eq, kLcB_some, kLcT_eq, kLc_eq, ev_lc, kIfF_eq, kLcIfB_some, kLcIfT_eq, kLcIf_eq, ev_lcIf, k2es_eq, k1es_eq, es_nil, es_cons, kSeq_eq, it_seq, kRange_eq, it_range, k3rangeS_eq, k2rangeS_eq, k1rangeS_eq, it_rangeS, kEnum_lst, kEnum_scr, it_enum, kZip_lst, k1zip_eq, it_zip, kSet_eq, ex_set, kNx_eq, kUnp_f, ex_unp, k2par_eq, k1par_eq, ex_par, k2app_eq, k1app_eq, ex_app, kIf_b, ex_ifs, kRt_eq, ex_ret, kEx_eq, ex_ex, ex_raise, ex_pass, kTry_exc, kTry_nx, kTry_rt, ex_try, kFors_eq, ex_fors, ex_whl, k3stx_eq, kFz_f, k2stx_eq, k1stx_eq, ex_setIx, k2stf_eq, k1stf_eq, ex_setFld, bk_nil, bk_cons, env0, leave_rt, leave_exc, cmpS, cmpop, binop, intsOf, g_true, allF, bindT, wipeE, okd_int, FV.toInt?, enc3, ixS, atIx]
    · rw [List.length_map, List.length_nil]
      unfold line
      omega
  have lc2 : ∀ (st : Store) (e0 e1 e2 e4 e5 e6 e7 e8 e9 e10 : Option PV), lcL (kLcIfT subc (run subc W prog n) (.v 4) (.cmp .eq (.ix (.v 4) (.k (.int 0))) (.v 3)) [4] [e0, e1, e2, some (.f (.int pr)), e4, e5, e6, e7, e8, e9, e10]) (L.map enc3) [] st = .ok ((M ++ [(pr, (po : Int), (ps : Int))]).map enc3) st := by
    intro st e0 e1 e2 e4 e5 e6 e7 e8 e9 e10
    rw [lcL_filter (f := id) (p := fun x => match x with | .tup (.int i :: _) => decide (i = pr) | _ => false)]
    · congr 1
      rw [List.nil_append, List.map_id, List.filter_map, ← hM]
      rfl
    · intro x hx
      obtain ⟨q, _, rfl⟩ := List.mem_map.mp hx
      by_cases c : q.1 = pr
      · simp [bind_ok, bind_exc, fr_ok, fr_exc, frI_ok, frI_exc, tst_ok, tst_exc, of_some, s_ok, s_exc, sb_nx, sb_rt, sb_exc, so_some, g_true, kGet_some, ev_v, ev_k, k2bin_eq, k1bin_eq, ev_bin, k2cmp_eq, k1cmp_eq, ev_cmp, k2ix_eq, k1ix_eq, ev_ix, k2dget_eq, k1dget_eq, ev_dget, k2din_eq, k1din_eq, ev_din, k2dnot_eq, k1dnot_eq, ev_dnot, k2cutTo_eq, k1cutTo_eq, ev_cutTo, k2cutFrom_eq, k1cutFrom_eq, ev_cutFrom, k1and_eq, ev_and, k1or_eq, ev_or, k1not_eq, ev_not, k1neg_eq, ev_neg, k1ite_eq, ev_ite, k4chain_eq, k3chain_eq, k2chain_eq, k1chain_eq, ev_chain, k1tup_eq, ev_tup, k1lst_eq, ev_lst, k1mlst_eq, ev_mlst, k1mdic_eq, ev_mdic, ev_call, k1blt_eq, ev_blt, k2meth_eq, k1meth_eq, ev_meth, k1make_eq, ev_make, k2make_ok, k2make_exc, k1fld_eq, ev_fld, k1isi_eq, ev_isi, k2bm_eq, k1bm_eq, ev_bm, k3cut_eq, k2cuti_eq, k2cut_eq, k1cut_eq, ev_cut, kElt_f, kLst_eq, kLcB_some, kLcT_eq, kLc_eq, ev_lc, kIfF_eq, kLcIfB_some, kLcIfT_eq, kLcIf_eq, ev_lcIf, k2es_eq, k1es_eq, es_nil, es_cons, kSeq_eq, it_seq, kRange_eq, it_range, k3rangeS_eq, k2rangeS_eq, k1rangeS_eq, it_rangeS, kEnum_lst, kEnum_scr, it_enum, kZip_lst, k1zip_eq, it_zip, kSet_eq, ex_set, kNx_eq, kUnp_f, ex_unp, k2par_eq, k1par_eq, ex_par, k2app_eq, k1app_eq, ex_app, kIf_b, ex_ifs, kRt_eq, ex_ret, kEx_eq, ex_ex, ex_raise, ex_pass, kTry_exc, kTry_nx, kTry_rt, ex_try, kFors_eq, ex_fors, ex_whl, k3stx_eq, kFz_f, k2stx_eq, k1stx_eq, ex_setIx, k2stf_eq, k1stf_eq, ex_setFld, bk_nil, bk_cons, env0, leave_rt, leave_exc, cmpS, cmpop, binop, intsOf, g_true, allF, bindT, wipeE, okd_int, FV.toInt?, enc3, ixS, atIx, FV.eqv, c]
      · simp [bind_ok, bind_exc, fr_ok, fr_exc, frI_ok, frI_exc, tst_ok, tst_exc, of_some, s_ok, s_exc, sb_nx, sb_rt, sb_exc, so_some, g_true, kGet_some, ev_v, ev_k, k2bin_eq, k1bin_eq, ev_bin, k2cmp_eq, k1cmp_eq, ev_cmp, k2ix_eq, k1ix_eq, ev_ix, k2dget_eq, k1dget_eq, ev_dget, k2din_eq, k1din_eq, ev_din, k2dnot_eq, k1dnot_eq, ev_dnot, k2cutTo_eq, k1cutTo_eq, ev_cutTo, k2cutFrom_eq, k1cutFrom_eq, ev_cutFrom, k1and_eq, ev_and, k1or_eq, ev_or, k1not_eq, ev_not, k1neg_eq, ev_neg, k1ite_eq, ev_ite, k4chain_eq, k3chain_eq, k2chain_eq, k1chain_eq, ev_chain, k1tup_eq, ev_tup, k1lst_eq, ev_lst, k1mlst_eq, ev_mlst, k1mdic_eq, ev_mdic, ev_call, k1blt_eq, ev_blt, k2meth_eq, k1meth_eq, ev_meth, k1make_eq, ev_make, k2make_ok, k2make_exc, k1fld_eq, ev_fld, k1isi_eq, ev_isi, k2bm_eq, k1bm_eq, ev_bm, k3cut_eq, k2cuti_eq, k2cut_eq, k1cut_eq, ev_cut, kElt_f, kLst_eq, kLcB_some, kLcT_eq, kLc_eq, ev_lc, kIfF_eq, kLcIfB_some, kLcIfT_eq, kLcIf_eq, ev_lcIf, k2es_eq, k1es_eq, es_nil, es_cons, kSeq_eq, it_seq, kRange_eq, it_range, k3rangeS_eq, k2rangeS_eq, k1rangeS_eq, it_rangeS, kEnum_lst, kEnum_scr, it_enum, kZip_lst, k1zip_eq, it_zip, kSet_eq, ex_set, kNx_eq, kUnp_f, ex_unp, k2par_eq, k1par_eq, ex_par, k2app_eq, k1app_eq, ex_app, kIf_b, ex_ifs, kRt_eq, ex_ret, kEx_eq, ex_ex, ex_raise, ex_pass, kTry_exc, kTry_nx, kTry_rt, ex_try, kFors_eq, ex_fors, ex_whl, k3stx_eq, kFz_f, k2stx_eq, k1stx_eq, ex_setIx, k2stf_eq, k1stf_eq, ex_setFld, bk_nil, bk_cons, env0, leave_rt, leave_exc, cmpS, cmpop, binop, intsOf, g_true, allF, bindT, wipeE, okd_int, FV.toInt?, enc3, ixS, atIx, FV.eqv, c]
    · rw [List.length_map, List.length_nil]
      unfold line
      omega
  have hm2 : L.map (·.1) ≠ [] := by
    intro q
    exact hne (List.map_eq_nil_iff.mp q)
  have mn := fun st => min_nums st hm2
  rw [hmin] at mn
  have la : ∀ st, ixS st (.f (.lst ((M ++ [(pr, (po : Int), (ps : Int))]).map enc3))) (.int (-1)) = some (.f (enc3 (pr, (po : Int), (ps : Int)))) := by
    intro st
    show (atIx ((M ++ [(pr, (po : Int), (ps : Int))]).map enc3) (-1)).map PV.f = _
    rw [List.map_append]
    show (atIx (M.map enc3 ++ [enc3 (pr, (po : Int), (ps : Int))]) (-1)).map PV.f = _
    rw [atIx_last]
    rfl
  generalize (M ++ [(pr, (po : Int), (ps : Int))]).map enc3 = X at lc2 la
  have be : ∀ (env : Env), bindT env [5, 6, 7] (enc3 (pr, (po : Int), (ps : Int))) = some (((env.set 5 (some (.f (.int pr)))).set 6 (some (.f (.int (po : Int))))).set 7 (some (.f (.int (ps : Int))))) := fun _ => rfl
  obtain ⟨f9, f10, gl⟩ := grow_loop W n po ps (some (.f (encO o))) (some (.f (.lst (nums ns)))) (some (.f (.lst (L.map enc3)))) (some (.f (.int pr))) none (some (.f (.int pr))) st ns 0 [] none none (by rw [hl, List.length_nil]; omega)
  have gl' : kFors subc (run subc W prog n) W [9, 10] growB [some (.f (encO o)), some (.f (.lst (nums ns))), some (.f (.lst (L.map enc3))), some (.f (.int pr)), none, some (.f (.int pr)), some (.f (.int (po : Nat))), some (.f (.int (ps : Nat))), some (.r st.length), none, none] (enumL 0 (nums ns)) (st ++ [.lst []]) = _ := gl
  simp only [growB, d__law_grown] at gl'
  rw [List.nil_append] at gl'
  rw [run_succ (d := d__law_grown) rfl rfl]
  simp [bind_ok, bind_exc, fr_ok, fr_exc, frI_ok, frI_exc, tst_ok, tst_exc, of_some, s_ok, s_exc, sb_nx, sb_rt, sb_exc, so_some, g_true, kGet_some, ev_v, ev_k, k2bin_eq, k1bin_eq, ev_bin, k2cmp_eq, k1cmp_eq, ev_cmp, k2ix_eq, k1ix_eq, ev_ix, k2dget_eq, k1dget_eq, ev_dget, k2din_eq, k1din_eq, ev_din, k2dnot_eq, k1dnot_eq, ev_dnot, k2cutTo_eq, k1cutTo_eq, ev_cutTo, k2cutFrom_eq, k1cutFrom_eq, ev_cutFrom, k1and_eq, ev_and, k1or_eq, ev_or, k1not_eq, ev_not, k1neg_eq, ev_neg, k1ite_eq, ev_ite, k4chain_eq, k3chain_eq, k2chain_eq, k1chain_eq, ev_chain, k1tup_eq, ev_tup, k1lst_eq, ev_lst, k1mlst_eq, ev_mlst, k1mdic_eq, ev_mdic, ev_call, k1blt_eq, ev_blt, k2meth_eq, k1meth_eq, ev_meth, k1make_eq, ev_make, k2make_ok, k2make_exc, k1fld_eq, ev_fld, k1isi_eq, ev_isi, k2bm_eq, k1bm_eq, ev_bm, k3cut_eq, k2cuti_eq, k2cut_eq, k1cut_eq, ev_cut, kElt_f, kLst_eq, kLcB_some, kLcT_eq, kLc_eq, ev_lc, kIfF_eq, kLcIfB_some, kLcIfT_eq, kLcIf_eq, ev_lcIf, k2es_eq, k1es_eq, es_nil, es_cons, kSeq_eq, it_seq, kRange_eq, it_range, k3rangeS_eq, k2rangeS_eq, k1rangeS_eq, it_rangeS, kEnum_lst, kEnum_scr, it_enum, kZip_lst, k1zip_eq, it_zip, kSet_eq, ex_set, kNx_eq, kUnp_f, ex_unp, k2par_eq, k1par_eq, ex_par, k2app_eq, k1app_eq, ex_app, kIf_b, ex_ifs, kRt_eq, ex_ret, kEx_eq, ex_ex, ex_raise, ex_pass, kTry_exc, kTry_nx, kTry_rt, ex_try, kFors_eq, ex_fors, ex_whl, k3stx_eq, kFz_f, k2stx_eq, k1stx_eq, ex_setIx, k2stf_eq, k1stf_eq, ex_setFld, bk_nil, bk_cons, env0, leave_rt, leave_exc, cmpS, cmpop, binop, intsOf, g_true, allF, bindT, wipeE, okd_int, FV.toInt?, d__law_grown, lv, lc1, lc2, mn, seqOf, la, -bindT, be, -kFors_eq, gl']
  have lf := leave_new (d := d__law_grown) (st := st) rfl (nums (bump po ps 0 ns))
  simp only [d__law_grown] at lf
  exact lf
end Pl
end MP

/-! the machine's values in the heap -/
namespace MP
open PySem L2
/-- where classes stand, and the names of their attributes in order -/
structure CT where
  K : PySem.W.Frag
  ca : Nat → Addr
  fl : Nat → List Str
mutual
def VF (C : CT) (X : List Addr) (H : Hp) : FV → V → Prop
  | .non, v => v = .non
  | .bl b, v => v = .bl b
  | .int i, v => v = .int i
  | .str s, v => v = .str ⟨s.toArray⟩
  | .tup xs, v => ∃ a vs, v = .ref a ∧ a ∉ X ∧ H a = some (.tup vs) ∧ VFs C X H xs vs
  | .lst xs, v => ∃ a vs, v = .ref a ∧ a ∉ X ∧ H a = some (.lst vs) ∧ VFs C X H xs vs
  | .ins c fs, v => ∃ a dx vs, v = .ref a ∧ a ∉ X ∧ H a = some (.ins (C.ca c) dx ((C.fl c).zip vs)) ∧ vs.length ≤ (C.fl c).length ∧ VFs C X H fs vs
  | .exc c, v => ∃ a, v = .ref a ∧ a ∉ X ∧ H a = some (excO a (.ref (C.ca c)))
  | .scr ns, v => ∃ a, v = .ref a ∧ ((a ∉ X ∧ Rd H a (.lst (ns.map V.int))) ∨ ∀ H', SqL C.K H' a (ns.map V.int))
def VFs (C : CT) (X : List Addr) (H : Hp) : List FV → List V → Prop
  | [], vs => vs = []
  | x :: xs, vs => ∃ w ws, vs = w :: ws ∧ VF C X H x w ∧ VFs C X H xs ws
end
theorem VF.scrSq {C : CT} {X : List Addr} {H : Hp} {ns : List Int} {v : V} (h : VF C X H (.scr ns) v) : ∃ a, v = .ref a ∧ SqL C.K H a (ns.map V.int) := by
  obtain ⟨a, e, h⟩ := h
  exact ⟨a, e, h.elim (fun h => .inl h.2) fun h => h H⟩
structure Lay where
  m : List Addr
  x : List Addr
def Lay.all (L : Lay) : List Addr := L.m ++ L.x
/-- what does not change but in the store -/
structure Ext (L : Lay) (H : Hp) (L' : Lay) (H' : Hp) : Prop where
  pre : L.m <+: L'.m
  x : L'.x = L.x
  old : ∀ a o, H a = some o → a ∉ L.all → a ∉ L'.all ∧ H' a = some o
  xs : ∀ a ∈ L.x, H' a = H a
theorem Ext.refl (L : Lay) (H : Hp) : Ext L H L H := ⟨List.prefix_refl _, rfl, fun _ _ h n => ⟨n, h⟩, fun _ _ => rfl⟩
theorem Ext.trans {L L1 L2 : Lay} {H H1 H2 : Hp} (a : Ext L H L1 H1) (b : Ext L1 H1 L2 H2) : Ext L H L2 H2 :=
  ⟨a.pre.trans b.pre, b.x.trans a.x, fun p o h n => b.old p o (a.old p o h n).2 (a.old p o h n).1, fun p hp => (b.xs p (by rw [a.x]; exact hp)).trans (a.xs p hp)⟩
/-- what is not tracked otherwise grows -/
theorem Ext.same {L : Lay} {H H' : Hp} (s : Same H H') (hx : ∀ a ∈ L.x, H a ≠ none) : Ext L H L H' :=
  ⟨List.prefix_refl _, rfl, fun a o h n => ⟨n, s a o h⟩, fun a ha => by
    cases e : H a with
    | none => exact absurd e (hx a ha)
    | some o => exact s a o e⟩
theorem Rd.ext {L L' : Lay} {H H' : Hp} (e : Ext L H L' H') {a : Addr} {u : HO} (n : a ∉ L.all) (h : Rd H a u) : a ∉ L'.all ∧ Rd H' a u := by
  rcases h with h | ⟨o, h⟩
  · exact ⟨(e.old a _ h n).1, .inl (e.old a _ h n).2⟩
  · exact ⟨(e.old a _ h n).1, .inr ⟨o, (e.old a _ h n).2⟩⟩
section
variable {C : CT} {L L' : Lay} {H H' : Hp}
mutual
theorem VF.ext (e : Ext L H L' H') : ∀ {x : FV} {v : V}, VF C L.all H x v → VF C L'.all H' x v
  | .non, _, h => h
  | .bl _, _, h => h
  | .int _, _, h => h
  | .str _, _, h => h
  | .tup xs, v, ⟨a, vs, e1, n, h, r⟩ => ⟨a, vs, e1, (e.old a _ h n).1, (e.old a _ h n).2, VFs.ext e r⟩
  | .lst xs, v, ⟨a, vs, e1, n, h, r⟩ => ⟨a, vs, e1, (e.old a _ h n).1, (e.old a _ h n).2, VFs.ext e r⟩
  | .ins c fs, v, ⟨a, dx, vs, e1, n, h, l, r⟩ => ⟨a, dx, vs, e1, (e.old a _ h n).1, (e.old a _ h n).2, l, VFs.ext e r⟩
  | .exc c, v, ⟨a, e1, n, h⟩ => ⟨a, e1, (e.old a _ h n).1, (e.old a _ h n).2⟩
  | .scr ns, v, ⟨a, e1, h⟩ => ⟨a, e1, h.imp (fun h => Rd.ext e h.1 h.2) id⟩
theorem VFs.ext (e : Ext L H L' H') : ∀ {xs : List FV} {vs : List V}, VFs C L.all H xs vs → VFs C L'.all H' xs vs
  | [], _, h => h
  | x :: xs, _, ⟨w, ws, e1, h, r⟩ => ⟨w, ws, e1, VF.ext e h, VFs.ext e r⟩
end
mutual
/-- fewer set aside -/
theorem VF.less {X X' : List Addr} (s : ∀ a ∈ X', a ∈ X) : ∀ {x : FV} {v : V}, VF C X H x v → VF C X' H x v
  | .non, _, h => h
  | .bl _, _, h => h
  | .int _, _, h => h
  | .str _, _, h => h
  | .tup xs, v, ⟨a, vs, e1, n, h, r⟩ => ⟨a, vs, e1, fun z => n (s a z), h, VFs.less s r⟩
  | .lst xs, v, ⟨a, vs, e1, n, h, r⟩ => ⟨a, vs, e1, fun z => n (s a z), h, VFs.less s r⟩
  | .ins c fs, v, ⟨a, dx, vs, e1, n, h, l, r⟩ => ⟨a, dx, vs, e1, fun z => n (s a z), h, l, VFs.less s r⟩
  | .exc c, v, ⟨a, e1, n, h⟩ => ⟨a, e1, fun z => n (s a z), h⟩
  | .scr c, v, ⟨a, e1, h⟩ => ⟨a, e1, h.imp (fun h => ⟨fun z => h.1 (s a z), h.2⟩) id⟩
theorem VFs.less {X X' : List Addr} (s : ∀ a ∈ X', a ∈ X) : ∀ {xs : List FV} {vs : List V}, VFs C X H xs vs → VFs C X' H xs vs
  | [], _, h => h
  | x :: xs, _, ⟨w, ws, e1, h, r⟩ => ⟨w, ws, e1, VF.less s h, VFs.less s r⟩
end
mutual
/-- the heap may change at places that are set aside, or grow -/
theorem VF.at {X X' : List Addr} (s : ∀ a o, H a = some o → a ∉ X → a ∉ X' ∧ H' a = some o) : ∀ {x : FV} {v : V}, VF C X H x v → VF C X' H' x v
  | .non, _, h => h
  | .bl _, _, h => h
  | .int _, _, h => h
  | .str _, _, h => h
  | .tup xs, v, ⟨a, vs, e1, n, h, r⟩ => ⟨a, vs, e1, (s a _ h n).1, (s a _ h n).2, VFs.at s r⟩
  | .lst xs, v, ⟨a, vs, e1, n, h, r⟩ => ⟨a, vs, e1, (s a _ h n).1, (s a _ h n).2, VFs.at s r⟩
  | .scr ns, v, ⟨a, e1, h⟩ => by
    refine ⟨a, e1, ?_⟩
    rcases h with ⟨n, h⟩ | h
    · refine .inl ⟨?_, ?_⟩
      · rcases h with h | ⟨o, h⟩ <;> exact (s a _ h n).1
      · rcases h with h | ⟨o, h⟩
        · exact .inl (s a _ h n).2
        · exact .inr ⟨o, (s a _ h n).2⟩
    · exact .inr h
  | .ins c fs, v, ⟨a, dx, vs, e1, n, h, l, r⟩ => ⟨a, dx, vs, e1, (s a _ h n).1, (s a _ h n).2, l, VFs.at s r⟩
  | .exc c, v, ⟨a, e1, n, h⟩ => ⟨a, e1, (s a _ h n).1, (s a _ h n).2⟩
theorem VFs.at {X X' : List Addr} (s : ∀ a o, H a = some o → a ∉ X → a ∉ X' ∧ H' a = some o) : ∀ {xs : List FV} {vs : List V}, VFs C X H xs vs → VFs C X' H' xs vs
  | [], _, h => h
  | x :: xs, _, ⟨w, ws, e1, h, r⟩ => ⟨w, ws, e1, VF.at s h, VFs.at s r⟩
end
theorem VFs.length {X : List Addr} : ∀ {xs : List FV} {vs : List V}, VFs C X H xs vs → vs.length = xs.length
  | [], _, h => by rw [show _ = [] from h]; rfl
  | x :: xs, _, ⟨w, ws, e1, h, r⟩ => by rw [e1]; simp [VFs.length r]
theorem VFs.append {X : List Addr} : ∀ {xs ys : List FV} {vs ws : List V}, VFs C X H xs vs → VFs C X H ys ws → VFs C X H (xs ++ ys) (vs ++ ws)
  | [], ys, _, ws, h, r => by rw [show _ = [] from h]; exact r
  | x :: xs, ys, _, ws, ⟨w, vs, e1, h, r⟩, r2 => by rw [e1]; exact ⟨w, vs ++ ws, rfl, h, r.append r2⟩
theorem VFs.take {X : List Addr} : ∀ (n : Nat) {xs : List FV} {vs : List V}, VFs C X H xs vs → VFs C X H (xs.take n) (vs.take n)
  | 0, xs, vs, _ => by simp [VFs]
  | n + 1, [], _, h => by rw [show _ = [] from h]; simp [VFs]
  | n + 1, x :: xs, _, ⟨w, vs, e1, h, r⟩ => by rw [e1]; exact ⟨w, vs.take n, rfl, h, r.take n⟩
theorem VFs.drop {X : List Addr} : ∀ (n : Nat) {xs : List FV} {vs : List V}, VFs C X H xs vs → VFs C X H (xs.drop n) (vs.drop n)
  | 0, xs, vs, h => h
  | n + 1, [], _, h => by rw [show _ = [] from h]; simp [VFs]
  | n + 1, x :: xs, _, ⟨w, vs, e1, h, r⟩ => by rw [e1]; exact r.drop n
theorem VFs.get {X : List Addr} : ∀ {xs : List FV} {vs : List V} {i : Nat} {x : FV}, VFs C X H xs vs → xs[i]? = some x → ∃ v, vs[i]? = some v ∧ VF C X H x v
  | [], _, i, x, h, e => by simp at e
  | y :: xs, _, 0, x, ⟨w, vs, e1, h, r⟩, e => by simp at e; subst e; exact ⟨w, by rw [e1]; rfl, h⟩
  | y :: xs, _, i + 1, x, ⟨w, vs, e1, h, r⟩, e => by
    obtain ⟨v, e2, r2⟩ := r.get (i := i) (by simpa using e)
    exact ⟨v, by rw [e1]; simpa using e2, r2⟩
theorem VFs.get' {X : List Addr} {xs : List FV} {vs : List V} {i : Nat} {v : V} (h : VFs C X H xs vs) (e : vs[i]? = some v) : ∃ x, xs[i]? = some x ∧ VF C X H x v := by
  have hi : i < xs.length := by
    have := (List.getElem?_eq_some_iff.mp e).1
    rw [h.length] at this
    exact this
  obtain ⟨w, e2, r⟩ := h.get (List.getElem?_eq_getElem hi)
  rw [e] at e2
  cases e2
  exact ⟨_, List.getElem?_eq_getElem hi, r⟩
theorem VFs.toNums {X : List Addr} : ∀ {ns : List Int} {vs : List V}, VFs C X H (nums ns) vs → vs = ns.map V.int
  | [], _, h => h
  | n :: ns, _, ⟨w, vs, e1, h, r⟩ => by
    rw [e1, VFs.toNums r]
    rw [show w = V.int n from h]
    rfl
theorem VFs.ofInts {X : List Addr} : ∀ {ns : List Int}, VFs C X H (nums ns) (ns.map V.int)
  | [] => rfl
  | n :: ns => ⟨.int n, ns.map V.int, rfl, rfl, VFs.ofInts⟩
end
/-- a value: frozen, or of the store -/
def VP (C : CT) (L : Lay) (H : Hp) : PV → V → Prop
  | .f x, v => VF C L.all H x v
  | .r n, v => ∃ a, L.m[n]? = some a ∧ v = .ref a
def VPs (C : CT) (L : Lay) (H : Hp) : List PV → List V → Prop
  | [], vs => vs = []
  | x :: xs, vs => ∃ w ws, vs = w :: ws ∧ VP C L H x w ∧ VPs C L H xs ws
section
variable {C : CT} {L L' : Lay} {H H' : Hp}
theorem VP.ext (e : Ext L H L' H') : ∀ {x : PV} {v : V}, VP C L H x v → VP C L' H' x v
  | .f _, _, h => VF.ext e h
  | .r n, _, ⟨a, h, r⟩ => ⟨a, by obtain ⟨t, ht⟩ := e.pre; rw [← ht, List.getElem?_append_left (List.getElem?_eq_some_iff.mp h).1]; exact h, r⟩
theorem VPs.ext (e : Ext L H L' H') : ∀ {xs : List PV} {vs : List V}, VPs C L H xs vs → VPs C L' H' xs vs
  | [], _, h => h
  | x :: xs, _, ⟨w, ws, e1, h, r⟩ => ⟨w, ws, e1, h.ext e, VPs.ext e r⟩
theorem VPs.length : ∀ {xs : List PV} {vs : List V}, VPs C L H xs vs → vs.length = xs.length
  | [], _, h => by rw [show _ = [] from h]; rfl
  | x :: xs, _, ⟨w, ws, e1, h, r⟩ => by rw [e1]; simp [VPs.length r]
theorem VPs.append : ∀ {xs ys : List PV} {vs ws : List V}, VPs C L H xs vs → VPs C L H ys ws → VPs C L H (xs ++ ys) (vs ++ ws)
  | [], ys, _, ws, h, r => by rw [show _ = [] from h]; exact r
  | x :: xs, ys, _, ws, ⟨w, vs, e1, h, r⟩, r2 => by rw [e1]; exact ⟨w, vs ++ ws, rfl, h, r.append r2⟩
theorem VPs.get : ∀ {xs : List PV} {vs : List V} {i : Nat} {x : PV}, VPs C L H xs vs → xs[i]? = some x → ∃ v, vs[i]? = some v ∧ VP C L H x v
  | [], _, i, x, h, e => by simp at e
  | y :: xs, _, 0, x, ⟨w, vs, e1, h, r⟩, e => by simp at e; subst e; exact ⟨w, by rw [e1]; rfl, h⟩
  | y :: xs, _, i + 1, x, ⟨w, vs, e1, h, r⟩, e => by
    obtain ⟨v, e2, r2⟩ := r.get (i := i) (by simpa using e)
    exact ⟨v, by rw [e1]; simpa using e2, r2⟩
theorem VPs.set : ∀ {xs : List PV} {vs : List V} {i : Nat} {x : PV} {v : V}, VPs C L H xs vs → VP C L H x v → VPs C L H (xs.set i x) (vs.set i v)
  | [], _, i, x, v, h, _ => by rw [show _ = [] from h]; rfl
  | y :: xs, _, 0, x, v, ⟨w, vs, e1, h, r⟩, hx => by rw [e1]; exact ⟨v, vs, rfl, hx, r⟩
  | y :: xs, _, i + 1, x, v, ⟨w, vs, e1, h, r⟩, hx => by rw [e1]; exact ⟨w, vs.set i v, rfl, h, r.set hx⟩
theorem VPs.fr : ∀ {xs : List PV} {fs : List FV} {vs : List V}, allF xs = some fs → VPs C L H xs vs → VFs C L.all H fs vs
  | [], fs, _, e, h => by cases e; exact h
  | .f x :: xs, fs, _, e, ⟨w, ws, e1, h, r⟩ => by
    simp only [allF, Option.map_eq_some_iff] at e
    obtain ⟨gs, e2, e3⟩ := e
    subst e3
    exact ⟨w, ws, e1, h, VPs.fr e2 r⟩
  | .r n :: xs, fs, _, e, _ => by simp [allF] at e
theorem VPs.ofF : ∀ {fs : List FV} {vs : List V}, VFs C L.all H fs vs → VPs C L H (fs.map .f) vs
  | [], _, h => h
  | x :: xs, _, ⟨w, ws, e1, h, r⟩ => ⟨w, ws, e1, h, VPs.ofF r⟩
/-- keys -/
def kyK : KY → Key
  | .i n => .inl n
  | .s x => .inr ⟨x.toArray⟩
theorem kyK_inj {a b : KY} (h : kyK a = kyK b) : a = b := by
  cases a <;> cases b <;> simp [kyK] at h <;> rw [h]
def KVs (C : CT) (L : Lay) (H : Hp) : List (KY × PV) → List (Key × V) → Prop
  | [], vs => vs = []
  | (k, x) :: xs, vs => ∃ w ws, vs = (kyK k, w) :: ws ∧ VP C L H x w ∧ KVs C L H xs ws
def TVs (C : CT) (L : Lay) (H : Hp) : List (List Int × PV) → List (List Key × V) → Prop
  | [], vs => vs = []
  | (k, x) :: xs, vs => ∃ w ws, vs = (k.map Sum.inl, w) :: ws ∧ VP C L H x w ∧ TVs C L H xs ws
theorem KVs.ext (e : Ext L H L' H') : ∀ {xs : List (KY × PV)} {vs : List (Key × V)}, KVs C L H xs vs → KVs C L' H' xs vs
  | [], _, h => h
  | (k, x) :: xs, _, ⟨w, ws, e1, h, r⟩ => ⟨w, ws, e1, h.ext e, KVs.ext e r⟩
theorem TVs.ext (e : Ext L H L' H') : ∀ {xs : List (List Int × PV)} {vs : List (List Key × V)}, TVs C L H xs vs → TVs C L' H' xs vs
  | [], _, h => h
  | (k, x) :: xs, _, ⟨w, ws, e1, h, r⟩ => ⟨w, ws, e1, h.ext e, TVs.ext e r⟩
/-- a thing of the store -/
def ObjP (C : CT) (L : Lay) (H : Hp) (a : Addr) : Obj → Prop
  | .lst xs => ∃ vs, H a = some (.lst vs) ∧ VPs C L H xs vs
  | .dic kvs => ∃ ks, H a = some (.dK ks) ∧ KVs C L H kvs ks
  | .dit kvs => ∃ ks, H a = some (.dT ks) ∧ TVs C L H kvs ks
  | .ins c fs => ∃ dx vs, H a = some (.ins (C.ca c) dx ((C.fl c).zip vs)) ∧ vs.length ≤ (C.fl c).length ∧ VPs C L H fs vs
theorem VPs.vp (e : ∀ {pv : PV} {v : V}, VP C L H pv v → VP C L' H' pv v) : ∀ {xs : List PV} {vs : List V}, VPs C L H xs vs → VPs C L' H' xs vs
  | [], _, h => h
  | x :: xs, _, ⟨w, ws, e1, h, r⟩ => ⟨w, ws, e1, e h, VPs.vp e r⟩
theorem KVs.vp (e : ∀ {pv : PV} {v : V}, VP C L H pv v → VP C L' H' pv v) : ∀ {xs : List (KY × PV)} {vs : List (Key × V)}, KVs C L H xs vs → KVs C L' H' xs vs
  | [], _, h => h
  | (k, x) :: xs, _, ⟨w, ws, e1, h, r⟩ => ⟨w, ws, e1, e h, KVs.vp e r⟩
theorem TVs.vp (e : ∀ {pv : PV} {v : V}, VP C L H pv v → VP C L' H' pv v) : ∀ {xs : List (List Int × PV)} {vs : List (List Key × V)}, TVs C L H xs vs → TVs C L' H' xs vs
  | [], _, h => h
  | (k, x) :: xs, _, ⟨w, ws, e1, h, r⟩ => ⟨w, ws, e1, e h, TVs.vp e r⟩
theorem ObjP.vp {a : Addr} {o : Obj} (e : ∀ {pv : PV} {v : V}, VP C L H pv v → VP C L' H' pv v) (k : ∀ u, H a = some u → H' a = some u) (h : ObjP C L H a o) : ObjP C L' H' a o := by
  cases o with
  | lst xs => obtain ⟨v, e1, r⟩ := h; exact ⟨v, k _ e1, r.vp e⟩
  | dic xs => obtain ⟨v, e1, r⟩ := h; exact ⟨v, k _ e1, r.vp e⟩
  | dit xs => obtain ⟨v, e1, r⟩ := h; exact ⟨v, k _ e1, r.vp e⟩
  | ins c xs => obtain ⟨d, v, e1, l, r⟩ := h; exact ⟨d, v, k _ e1, l, r.vp e⟩
structure StR (C : CT) (L : Lay) (st : Store) (H : Hp) : Prop where
  len : L.m.length = st.length
  nd : L.all.Nodup
  obj : ∀ (n : Nat) (o : Obj), st[n]? = some o → ∃ a, L.m[n]? = some a ∧ ObjP C L H a o
  ex : ∀ a ∈ L.x, H a ≠ none
theorem ObjP.there {a : Addr} {o : Obj} (h : ObjP C L H a o) : H a ≠ none := by
  cases o with
  | lst xs => obtain ⟨_, e, _⟩ := h; rw [e]; simp
  | dic xs => obtain ⟨_, e, _⟩ := h; rw [e]; simp
  | dit xs => obtain ⟨_, e, _⟩ := h; rw [e]; simp
  | ins c xs => obtain ⟨_, _, e, _⟩ := h; rw [e]; simp
theorem StR.fresh {st : Store} (h : StR C L st H) {p : Addr} (hp : H p = none) : p ∉ L.all := by
  intro hm
  rcases List.mem_append.mp hm with hm | hm
  · obtain ⟨n, hn⟩ := List.getElem?_of_mem hm
    have hl : n < st.length := by rw [← h.len]; exact (List.getElem?_eq_some_iff.mp hn).1
    obtain ⟨a, ha, ho⟩ := h.obj n _ (List.getElem?_eq_getElem hl)
    rw [hn] at ha
    cases ha
    exact ho.there hp
  · exact h.ex p hm hp
/-- the heap grows; nothing of the store changes -/
theorem ObjP.same {a : Addr} {o : Obj} (e : Ext L H L H') (k : ∀ u, H a = some u → H' a = some u) (h : ObjP C L H a o) : ObjP C L H' a o := by
  cases o with
  | lst xs => obtain ⟨v, e1, r⟩ := h; exact ⟨v, k _ e1, r.ext e⟩
  | dic xs => obtain ⟨v, e1, r⟩ := h; exact ⟨v, k _ e1, r.ext e⟩
  | dit xs => obtain ⟨v, e1, r⟩ := h; exact ⟨v, k _ e1, r.ext e⟩
  | ins c xs => obtain ⟨d, v, e1, l, r⟩ := h; exact ⟨d, v, k _ e1, l, r.ext e⟩
theorem ObjP.ext {a : Addr} {o : Obj} (e : Ext L H L' H') (k : ∀ u, H a = some u → H' a = some u) (h : ObjP C L H a o) : ObjP C L' H' a o := by
  cases o with
  | lst xs => obtain ⟨v, e1, r⟩ := h; exact ⟨v, k _ e1, r.ext e⟩
  | dic xs => obtain ⟨v, e1, r⟩ := h; exact ⟨v, k _ e1, r.ext e⟩
  | dit xs => obtain ⟨v, e1, r⟩ := h; exact ⟨v, k _ e1, r.ext e⟩
  | ins c xs => obtain ⟨d, v, e1, l, r⟩ := h; exact ⟨d, v, k _ e1, l, r.ext e⟩
theorem StR.extS {st : Store} (h : StR C L st H) (s : Same H H') : Ext L H L H' := Ext.same s h.ex
theorem StR.same {st : Store} (h : StR C L st H) (s : Same H H') : StR C L st H' :=
  ⟨h.len, h.nd, fun n o e => by obtain ⟨a, ha, ho⟩ := h.obj n o e; exact ⟨a, ha, ho.same (h.extS s) fun u q => s _ _ q⟩, fun a ha q => by
    cases e : H a with
    | none => exact h.ex a ha e
    | some o => rw [s a o e] at q; cases q⟩
/-- a new thing of the store -/
theorem StR.new {st : Store} (h : StR C L st H) {p : Addr} {o : Obj} (s : Same H H') (hp : H p = none) (ho : ObjP C ⟨L.m ++ [p], L.x⟩ H' p o) (ex : Ext L H ⟨L.m ++ [p], L.x⟩ H') : StR C ⟨L.m ++ [p], L.x⟩ (st ++ [o]) H' := by
  have nf := h.fresh hp
  refine ⟨by simp [h.len], ?_, fun n u e => ?_, fun a ha q => by
    cases e : H a with
    | none => exact h.ex a ha e
    | some o => rw [s a o e] at q; cases q⟩
  · show ((L.m ++ [p]) ++ L.x).Nodup
    have nd : (L.m ++ L.x).Nodup := h.nd
    have nf : p ∉ L.m ++ L.x := nf
    rw [List.nodup_append] at nd ⊢
    rw [List.mem_append] at nf
    refine ⟨?_, nd.2.1, fun a ha b hb => ?_⟩
    · rw [List.nodup_append]
      exact ⟨nd.1, by simp, fun a ha b hb => by rw [List.mem_singleton] at hb; subst hb; rintro rfl; exact nf (.inl ha)⟩
    · rcases List.mem_append.mp ha with ha | ha
      · exact nd.2.2 a ha b hb
      · rw [List.mem_singleton] at ha; subst ha; rintro rfl; exact nf (.inr hb)
  · by_cases hn : n < st.length
    · rw [List.getElem?_append_left hn] at e
      obtain ⟨a, ha, hob⟩ := h.obj n u e
      exact ⟨a, by rw [List.getElem?_append_left (by rw [h.len]; exact hn)]; exact ha, hob.ext ex fun u q => s _ _ q⟩
    · have hn2 : n = st.length := by
        have := (List.getElem?_eq_some_iff.mp e).1
        simp at this
        omega
      subst hn2
      simp at e
      subst e
      exact ⟨p, by rw [← h.len]; simp, ho⟩
theorem StR.extN {st : Store} (h : StR C L st H) {p : Addr} (s : Same H H') (hp : H p = none) : Ext L H ⟨L.m ++ [p], L.x⟩ H' :=
  ⟨⟨[p], rfl⟩, rfl, fun a o e n => ⟨by
    show a ∉ (L.m ++ [p]) ++ L.x
    have n : a ∉ L.m ++ L.x := n
    simp only [List.mem_append, List.mem_singleton, not_or] at n ⊢
    exact ⟨⟨n.1, fun z => by rw [z, hp] at e; cases e⟩, n.2⟩, s a o e⟩, fun a ha => by
    cases e : H a with
    | none => exact absurd e (h.ex a ha)
    | some o => exact s a o e⟩
theorem nodup_at : ∀ {xs : List Addr} {i j : Nat} {a : Addr}, xs.Nodup → xs[i]? = some a → xs[j]? = some a → i = j
  | [], _, _, _, _, h, _ => by simp at h
  | x :: xs, 0, 0, _, _, _, _ => rfl
  | x :: xs, 0, j + 1, a, nd, h, k => by
    simp at h k
    subst h
    exact absurd (List.mem_of_getElem? k) (List.nodup_cons.mp nd).1
  | x :: xs, i + 1, 0, a, nd, h, k => by
    simp at h k
    subst k
    exact absurd (List.mem_of_getElem? h) (List.nodup_cons.mp nd).1
  | x :: xs, i + 1, j + 1, a, nd, h, k => by
    exact congrArg (· + 1) (nodup_at (xs := xs) (i := i) (j := j) (a := a) (List.nodup_cons.mp nd).2 (by simpa using h) (by simpa using k))
/-- a thing of the store is changed -/
theorem StR.extU {st : Store} (h : StR C L st H) {n : Nat} {p : Addr} {u : HO} (hp : L.m[n]? = some p) : Ext L H L (upd H p u) :=
  ⟨List.prefix_refl _, rfl, fun a o e na => ⟨na, by rw [upd_ne]; exact e; rintro rfl; exact na (List.mem_append_left _ (List.mem_of_getElem? hp))⟩, fun a ha => upd_ne (by
    rintro rfl
    have nd : (L.m ++ L.x).Nodup := h.nd
    rw [List.nodup_append] at nd
    exact nd.2.2 _ (List.mem_of_getElem? hp) _ ha rfl)⟩
theorem StR.upd {st : Store} (h : StR C L st H) {n : Nat} {p : Addr} {u : HO} {o : Obj} (hp : L.m[n]? = some p) (ho : ObjP C L (L2.upd H p u) p o) : StR C L (st.set n o) (L2.upd H p u) := by
  have ex := h.extU (u := u) hp
  have nd : (L.m ++ L.x).Nodup := h.nd
  rw [List.nodup_append] at nd
  refine ⟨by rw [List.length_set]; exact h.len, h.nd, fun k w e => ?_, fun a ha q => ?_⟩
  · rw [List.getElem?_set] at e
    by_cases hk : n = k
    · subst hk
      rw [if_pos rfl] at e
      split at e
      · cases e; exact ⟨p, hp, ho⟩
      · cases e
    · rw [if_neg hk] at e
      obtain ⟨a, ha, hob⟩ := h.obj k w e
      refine ⟨a, ha, hob.ext ex fun v q => ?_⟩
      rw [upd_ne]
      · exact q
      · rintro rfl
        exact hk (nodup_at nd.1 hp ha)
  · rw [ex.xs a ha] at q
    exact h.ex a ha q
end
end MP

/-! what an expression of the machine comes to, over the hand layer -/
namespace MP
open PySem L2
def EnvR (C : CT) (L : Lay) (env : Env) (σ : St) (H : Hp) : Prop := env.length = σ.length ∧ ∀ (i : Nat) (pv : PV), env[i]? = some (some pv) → ∃ v, σ[i]? = some (some v) ∧ VP C L H pv v
theorem EnvR.ext {C : CT} {L L' : Lay} {H H' : Hp} {env : Env} {σ : St} (e : Ext L H L' H') (h : EnvR C L env σ H) : EnvR C L' env σ H' :=
  ⟨h.1, fun i pv q => by obtain ⟨v, a, b⟩ := h.2 i pv q; exact ⟨v, a, b.ext e⟩⟩
theorem EnvR.set {C : CT} {L : Lay} {H : Hp} {env : Env} {σ : St} {i : Nat} {pv : PV} {v : V} (h : EnvR C L env σ H) (r : VP C L H pv v) : EnvR C L (env.set i (some pv)) (σ.set i (some v)) H := by
  refine ⟨by simp [h.1], fun j q e => ?_⟩
  rw [List.getElem?_set] at e ⊢
  by_cases hj : i = j
  · subst hj
    rw [if_pos rfl] at e ⊢
    by_cases hl : i < env.length
    · rw [if_pos hl] at e
      cases e
      exact ⟨v, by rw [if_pos (by rw [← h.1]; exact hl)], r⟩
    · rw [if_neg hl] at e; cases e
  · rw [if_neg hj] at e ⊢
    exact h.2 j q e
theorem EnvR.drop {C : CT} {L : Lay} {H : Hp} {env : Env} {σ : St} {i : Nat} (h : EnvR C L env σ H) : EnvR C L (env.set i none) (σ.set i none) H := by
  refine ⟨by simp [h.1], fun j q e => ?_⟩
  rw [List.getElem?_set] at e ⊢
  by_cases hj : i = j
  · subst hj
    rw [if_pos rfl] at e
    by_cases hl : i < env.length
    · rw [if_pos hl] at e; cases e
    · rw [if_neg hl] at e; cases e
  · rw [if_neg hj] at e ⊢
    exact h.2 j q e
/-- the answer of a run, from a state of the heap -/
def Ans (X : Cx) (C : CT) (σ : St) (L : Lay) (H : Hp) {α β : Type} (rel : Lay → Hp → α → β → Prop) (r : R α) (Q : β → Hp → Prop) : Prop := match r with
  | .ok a st => ∀ L' b H', Ext L H L' H' → StR C L' st H' → rel L' H' a b → Q b H'
  | .exc c st => Takes X (fun cls d σ' H' => cls = .ref (C.ca c) ∧ d = none ∧ σ' = σ ∧ ∃ L', Ext L H L' H' ∧ StR C L' st H')
  | .bad => False
theorem takes_mono' {X : Cx} {W W' : WX} (tk : Takes X W) (h : ∀ cls d σ H, W' cls d σ H → W cls d σ H) : Takes X W' := Fk.takes_mono tk h
section
variable {X : Cx} {C : CT} {σ : St} {L L1 : Lay} {H H1 : Hp} {α β γ δ : Type} {rel : Lay → Hp → α → β → Prop} {r : R α} {Q : β → Hp → Prop}
theorem Ans.ext (e : Ext L H L1 H1) (h : Ans X C σ L H rel r Q) : Ans X C σ L1 H1 rel r Q := by
  cases r with
  | ok a st => exact fun L' b H' e' s' r' => h L' b H' (e.trans e') s' r'
  | exc c st => exact takes_mono' h fun cls d σ' H' ⟨e1, e2, e3, L', e', s'⟩ => ⟨e1, e2, e3, L', e.trans e', s'⟩
  | bad => exact h
theorem Ans.bind {f : α → Store → R γ} {rel' : Lay → Hp → γ → δ → Prop} {Q' : δ → Hp → Prop} (h : Ans X C σ L H rel' (r.bind f) Q')
    (k : ∀ a st L1 b H1, r = .ok a st → Ext L H L1 H1 → StR C L1 st H1 → rel L1 H1 a b → Ans X C σ L1 H1 rel' (f a st) Q' → Q b H1) : Ans X C σ L H rel r Q := by
  cases r with
  | ok a st => exact fun L' b H' e' s' r' => k a st L' b H' rfl e' s' r' (Ans.ext e' h)
  | exc c st => exact h
  | bad => exact h
theorem Ans.ok {a : α} {st : Store} {b : β} (h : Ans X C σ L H rel (.ok a st) Q) (s : StR C L st H) (r : rel L H a b) : Q b H := h L b H (Ext.refl L H) s r
end
abbrev relV (C : CT) : Lay → Hp → PV → V → Prop := fun L H a b => VP C L H a b
abbrev relVs (C : CT) : Lay → Hp → List PV → List V → Prop := fun L H a b => VPs C L H a b
/-- readings of the machine's expressions -/
def tE (X : Cx) (C : CT) (ev : Env → Store → R PV) : TE := fun σ H Q => ∃ env st L, StR C L st H ∧ EnvR C L env σ H ∧ Ans X C σ L H (relV C) (ev env st) Q
def tEs (X : Cx) (C : CT) (ev : Env → Store → R (List PV)) : TA := fun σ H Q => ∃ env st L, StR C L st H ∧ EnvR C L env σ H ∧ Ans X C σ L H (relVs C) (ev env st) Q
def tTs (X : Cx) (C : CT) (ev : Env → Store → R PV) : TT := fun σ H Q => ∃ env st L, StR C L st H ∧ EnvR C L env σ H ∧ Ans X C σ L H (fun _ _ a b => a = b) ((ev env st).tst fun b st => .ok b st) Q
section
variable (X : Cx) (C : CT) (sub : Nat → Nat → Option Bool) (Γ : Call)
def ME (e : E) (x : Expr) : Prop := PE X x (tE X C (evE sub Γ e))
def MEs (e : Es) (x : List Expr) : Prop := PA X x (tEs X C (evEs sub Γ e))
def MT (e : E) (x : Expr) : Prop := PT X x (tTs X C (evE sub Γ e))
def MW (e : E) (x : Expr) : Prop := PW X x (tTs X C (evE sub Γ e))
end
section
variable {X : Cx} {C : CT} {σ : St} {sub : Nat → Nat → Option Bool} {Γ : Call} {a b c e : E} {es : Es} {xa xb xc x : Expr} {xs : List Expr} {pos p : Pos} {i j : Nat} {n : Str}
theorem PE_imp {t t' : TE} (h : PE X x t) (i : ∀ σ H Q, t' σ H Q → t σ H Q) : PE X x t' := Fk.PE_imp h i
theorem mv_var (hN : X.N[i]? = some n) (hv : Vis X.env.scope n) (hd : (n == ("__debug__" : Str)) = false) (hcd : (n == ("__classdict__" : Str)) = false) : ME X C sub Γ (.v i) (.Name n pos) := by
  refine PE_imp (pe_var (i := i) hN hv hd hcd) fun σ H Q q => ?_
  obtain ⟨env, st, L, hs, he, h⟩ := q
  simp only [evE] at h
  cases e : env[i]? with
  | none => rw [e] at h; exact h.elim
  | some o => cases o with
    | none => rw [e] at h; exact h.elim
    | some pv =>
      rw [e] at h
      obtain ⟨v, e2, r⟩ := he.2 i pv e
      exact ⟨v, e2, h.ok hs r⟩
theorem mv_k {k : V} {f : FV} (h : PE X x (tC k)) (r : ∀ X H, VF C X H f k) : ME X C sub Γ (.k f) x := by
  refine PE_imp h fun σ H Q q => ?_
  obtain ⟨env, st, L, hs, he, h⟩ := q
  simp only [evE] at h
  exact Ans.ok (b := k) h hs (r _ _)
theorem mv_int {n : Int} : ME X C sub Γ (.k (.int n)) (.Constant (.int n) j pos) := mv_k pe_int fun _ _ => rfl
theorem mv_bl {b : Bool} : ME X C sub Γ (.k (.bl b)) (.Constant (.bool b) j pos) := mv_k pe_bl fun _ _ => rfl
theorem mv_non : ME X C sub Γ (.k .non) (.Constant .none j pos) := mv_k pe_non fun _ _ => rfl
theorem mv_str {s : List Nat} {z : Str} (h : z.cps.toList = s) : ME X C sub Γ (.k (.str s)) (.Constant (.str z) j pos) := mv_k pe_str fun _ _ => by
  show V.str z = V.str ⟨s.toArray⟩
  subst h
  simp
/-- a two-place operator on frozen values -/
def BopOk (X : Cx) (C : CT) (o : BO) (op : Operator) : Prop := ∃ r, OpR X (binaryOp op) r ∧ ∀ (x y z : FV) (v w : V) (L : Lay) (H : Hp) (st : Store) (Q : VK), binop o x y = some z → StR C L st H → VF C L.all H x v → VF C L.all H y w →
  (∀ v' H', Ext L H L H' → StR C L st H' → VF C L.all H' z v' → Q v' H') → r v w H Q
def CopOk (X : Cx) (C : CT) (o : CO) (op : CmpOp) : Prop := ∃ r, OpR X (compareOp op) r ∧ ∀ (x y : PV) (z : Bool) (v w : V) (L : Lay) (H : Hp) (st : Store) (Q : VK), cmpS st o x y = some z → StR C L st H → VP C L H x v → VP C L H y w → Q (.bl z) H → r v w H Q
theorem of_fr {rel' : Lay → Hp → PV → V → Prop} {pv : PV} {st : Store} {k : FV → Store → R PV} {L : Lay} {H : Hp} {Q : VK} (h : Ans X C σ L H rel' (pv.fr st k) Q) : ∃ f, pv = .f f ∧ Ans X C σ L H rel' (k f st) Q := by
  cases pv with
  | f f => exact ⟨f, rfl, h⟩
  | r n => exact h.elim
theorem of_of {α β : Type} {rel : Lay → Hp → α → β → Prop} {o : Option α} {st : Store} {L : Lay} {H : Hp} {Q : β → Hp → Prop} (h : Ans X C σ L H rel (R.of o st) Q) : ∃ a, o = some a ∧ Ans X C σ L H rel (.ok a st) Q := by
  cases o with
  | none => exact h.elim
  | some a => exact ⟨a, rfl, h⟩
theorem mv_bin {o : BO} {op : Operator} (ho : BopOk X C o op) (ha : ME X C sub Γ a xa) (hb : ME X C sub Γ b xb) : ME X C sub Γ (.bin o a b) (.BinOp xa op xb pos) := by
  obtain ⟨r, ho, hr⟩ := ho
  refine PE_imp (pe_op ho ha hb) fun σ H Q q => ?_
  obtain ⟨env, st, L, hs, he, h⟩ := q
  simp only [evE, R.fr] at h
  refine ⟨env, st, L, hs, he, h.bind fun pa st1 L1 v H1 _ e1 s1 r1 h1 => ?_⟩
  obtain ⟨fa, rfl, h1⟩ := of_fr h1
  refine ⟨env, st1, L1, s1, he.ext e1, h1.bind fun pb st2 L2 w H2 _ e2 s2 r2 h2 => ?_⟩
  obtain ⟨fb, rfl, h2⟩ := of_fr h2
  obtain ⟨z, hz, h2⟩ := of_of h2
  rw [Option.map_eq_some_iff] at hz
  obtain ⟨z', hz, rfl⟩ := hz
  exact hr fa fb z' v w L2 H2 st2 Q hz s2 (VP.ext e2 r1) r2 fun v' H' e3 s3 r3 => h2 L2 v' H' e3 s3 r3
theorem mv_cmp {o : CO} {op : CmpOp} (ho : CopOk X C o op) (ha : ME X C sub Γ a xa) (hb : ME X C sub Γ b xb) (hm : behindInMarks op xb = false) : ME X C sub Γ (.cmp o a b) (.Compare xa [op] [xb] pos) := by
  obtain ⟨r, ho, hr⟩ := ho
  refine PE_imp (pe_cmpR ho ha hb hm) fun σ H Q q => ?_
  obtain ⟨env, st, L, hs, he, h⟩ := q
  simp only [evE] at h
  refine ⟨env, st, L, hs, he, h.bind fun pa st1 L1 v H1 _ e1 s1 r1 h1 => ?_⟩
  refine ⟨env, st1, L1, s1, he.ext e1, h1.bind fun pb st2 L2 w H2 _ e2 s2 r2 h2 => ?_⟩
  obtain ⟨z, hz, h2⟩ := of_of h2
  rw [Option.map_eq_some_iff] at hz
  obtain ⟨z', hz, rfl⟩ := hz
  exact hr pa pb z' v w L2 H2 st2 Q hz s2 (VP.ext e2 r1) r2 (h2.ok s2 rfl)
theorem mt_cmp {o : CO} {op : CmpOp} (ho : CopOk X C o op) (ha : ME X C sub Γ a xa) (hb : ME X C sub Γ b xb) (hm : behindInMarks op xb = false) : MT X C sub Γ (.cmp o a b) (.Compare xa [op] [xb] pos) := by
  obtain ⟨r, ho, hr⟩ := ho
  refine Fk.PT_imp (pt_cmpR ho ha hb hm) fun σ H Q q => ?_
  obtain ⟨env, st, L, hs, he, h⟩ := q
  simp only [evE, R.tst] at h
  refine ⟨env, st, L, hs, he, ?_⟩
  cases hA : evE sub Γ a env st with
  | bad => rw [hA] at h; exact h.elim
  | exc c st' => rw [hA] at h; exact h
  | ok pa st1 =>
    rw [hA] at h
    refine fun L1 v H1 e1 s1 r1 => ⟨env, st1, L1, s1, he.ext e1, ?_⟩
    have h := h.ext e1
    cases hB : evE sub Γ b env st1 with
    | bad => simp only [R.bind, hB] at h; exact h.elim
    | exc c st' => simp only [R.bind, hB] at h; exact h
    | ok pb st2 =>
      refine fun L2 w H2 e2 s2 r2 => ?_
      simp only [R.bind, hB] at h
      cases hz : cmpS st2 o pa pb with
      | none => simp only [hz, Option.map, R.of] at h; exact h.elim
      | some z =>
        simp only [hz, Option.map, R.of] at h
        exact hr pa pb z v w L2 H2 st2 _ hz s2 (VP.ext e2 r1) r2 ⟨z, rfl, (h.ext e2).ok s2 rfl⟩
theorem bind_bind {α β γ : Type} (r : R α) (f : α → Store → R β) (g : β → Store → R γ) : (r.bind f).bind g = r.bind fun a st => (f a st).bind g := by
  cases r <;> rfl
theorem tst_eq {α : Type} (r : R PV) (k : Bool → Store → R α) : r.tst k = (r.tst fun b st => .ok b st).bind k := by
  unfold R.tst
  rw [bind_bind]
  congr 1
  funext pv st
  cases pv with
  | f f => cases f <;> rfl
  | r n => rfl
theorem of_tst {α β : Type} {rel : Lay → Hp → α → β → Prop} {r : R PV} {k : Bool → Store → R α} {L : Lay} {H : Hp} {Q : β → Hp → Prop} {Q' : Bool → Hp → Prop} (h : Ans X C σ L H rel (r.tst k) Q)
    (q : ∀ z st L1 H1, Ext L H L1 H1 → StR C L1 st H1 → Ans X C σ L1 H1 rel (k z st) Q → Q' z H1) : Ans X C σ L H (fun _ _ a b => a = b) (r.tst fun b st => .ok b st) Q' := by
  rw [tst_eq] at h
  exact h.bind fun a st L1 b H1 _ e1 s1 r1 h1 => by subst r1; exact q a st L1 H1 e1 s1 h1
/-- as a value: what a test gives -/
theorem mv_and {rest : List Expr} (ha : ME X C sub Γ a xa) (hb : ME X C sub Γ b (.BoolOp .And (xb :: rest) pos)) : ME X C sub Γ (.and a b) (.BoolOp .And (xa :: xb :: rest) pos) := by
  refine PE_imp (pe_and ha hb) fun σ H Q q => ?_
  obtain ⟨env, st, L, hs, he, h⟩ := q
  simp only [evE, R.tst] at h
  refine ⟨env, st, L, hs, he, h.bind fun pv st1 L1 v H1 _ e1 s1 r1 h1 => ?_⟩
  cases pv with
  | r n => exact h1.elim
  | f f =>
    cases f with
    | bl k =>
      have hv : v = V.bl k := r1
      refine ⟨k, hv, ?_⟩
      cases k with
      | true => exact iteT ⟨env, st1, L1, s1, he.ext e1, h1⟩
      | false => exact iteF (h1.ok s1 rfl)
    | _ => exact h1.elim
theorem mv_or {rest : List Expr} (ha : ME X C sub Γ a xa) (hb : ME X C sub Γ b (.BoolOp .Or (xb :: rest) pos)) : ME X C sub Γ (.or a b) (.BoolOp .Or (xa :: xb :: rest) pos) := by
  refine PE_imp (pe_or ha hb) fun σ H Q q => ?_
  obtain ⟨env, st, L, hs, he, h⟩ := q
  simp only [evE, R.tst] at h
  refine ⟨env, st, L, hs, he, h.bind fun pv st1 L1 v H1 _ e1 s1 r1 h1 => ?_⟩
  cases pv with
  | r n => exact h1.elim
  | f f =>
    cases f with
    | bl k =>
      have hv : v = V.bl k := r1
      refine ⟨k, hv, ?_⟩
      cases k with
      | true => exact iteT (h1.ok s1 rfl)
      | false => exact iteF ⟨env, st1, L1, s1, he.ext e1, h1⟩
    | _ => exact h1.elim
theorem mv_one {op : BoolOp} (h : ME X C sub Γ a xa) : ME X C sub Γ a (.BoolOp op [xa] pos) := pe_one h
theorem mv_not (h : ME X C sub Γ a xa) : ME X C sub Γ (.not a) (.UnaryOp .Not xa pos) := by
  refine PE_imp (pe_not h) fun σ H Q q => ?_
  obtain ⟨env, st, L, hs, he, h⟩ := q
  simp only [evE, R.tst] at h
  refine ⟨env, st, L, hs, he, h.bind fun pv st1 L1 v H1 _ e1 s1 r1 h1 => ?_⟩
  cases pv with
  | r n => exact h1.elim
  | f f =>
    cases f with
    | bl k => exact ⟨k, r1, h1.ok s1 rfl⟩
    | _ => exact h1.elim
theorem mt_not (h : MT X C sub Γ a xa) : MT X C sub Γ (.not a) (.UnaryOp .Not xa pos) := by
  refine Fk.PT_imp (pt_not h) fun σ H Q q => ?_
  obtain ⟨env, st, L, hs, he, h⟩ := q
  simp only [evE] at h
  refine ⟨env, st, L, hs, he, ?_⟩
  have e : ((evE sub Γ a env st).tst fun k st => R.ok (PV.f (.bl (!k))) st).tst (fun b st => R.ok b st) = (evE sub Γ a env st).tst fun k st => .ok (!k) st := by
    cases evE sub Γ a env st with
    | ok pv st => cases pv with
      | f f => cases f <;> rfl
      | r n => rfl
    | exc c st => rfl
    | bad => rfl
  rw [e] at h
  exact of_tst h fun z st1 L1 H1 e1 s1 h1 => h1.ok s1 rfl
/-- a value that is a truth, as a test -/
theorem mt_val (h : ME X C sub Γ a xa) (he : ∀ whole, isTrue xa X.env whole = (do let v ← whole; standAt xa.pos; holding [v] (truthy v))) : MT X C sub Γ a xa := by
  refine Fk.PT_imp (pt_val h he) fun σ H Q q => ?_
  obtain ⟨env, st, L, hs, he, h⟩ := q
  simp only [R.tst] at h
  refine ⟨env, st, L, hs, he, h.bind fun pv st1 L1 v H1 _ e1 s1 r1 h1 => ?_⟩
  cases pv with
  | r n => exact h1.elim
  | f f =>
    cases f with
    | bl k => exact ⟨k, r1, h1.ok s1 rfl⟩
    | _ => exact h1.elim
theorem tst_ite (r : R PV) (y : R PV) (f : Store → R PV) (k : Bool) : True := trivial
theorem mw_and {rest : List Expr} (ha : MT X C sub Γ a xa) (hb : MW X C sub Γ b (.BoolOp .And (xb :: rest) pos)) : MW X C sub Γ (.and a b) (.BoolOp .And (xa :: xb :: rest) pos) := by
  refine Fk.PW_imp (pw_and ha hb) fun σ H Q q => ?_
  obtain ⟨env, st, L, hs, he, h⟩ := q
  simp only [evE] at h
  refine ⟨env, st, L, hs, he, ?_⟩
  have e : ((evE sub Γ a env st).tst fun k st => if k = true then evE sub Γ b env st else R.ok (PV.f (.bl false)) st).tst (fun b st => R.ok b st) = (evE sub Γ a env st).tst fun k st => if k = true then (evE sub Γ b env st).tst (fun b st => .ok b st) else .ok false st := by
    cases evE sub Γ a env st with
    | ok pv st => cases pv with
      | f f => cases f with
        | bl k => cases k <;> rfl
        | _ => rfl
      | r n => rfl
    | exc c st => rfl
    | bad => rfl
  rw [e] at h
  refine of_tst h fun z st1 L1 H1 e1 s1 h1 => ?_
  cases z with
  | true => exact iteT ⟨env, st1, L1, s1, he.ext e1, h1⟩
  | false => exact iteF (h1.ok s1 rfl)
theorem mw_or {rest : List Expr} (ha : MT X C sub Γ a xa) (hb : MW X C sub Γ b (.BoolOp .Or (xb :: rest) pos)) : MW X C sub Γ (.or a b) (.BoolOp .Or (xa :: xb :: rest) pos) := by
  refine Fk.PW_imp (pw_or ha hb) fun σ H Q q => ?_
  obtain ⟨env, st, L, hs, he, h⟩ := q
  simp only [evE] at h
  refine ⟨env, st, L, hs, he, ?_⟩
  have e : ((evE sub Γ a env st).tst fun k st => if k = true then R.ok (PV.f (.bl true)) st else evE sub Γ b env st).tst (fun b st => R.ok b st) = (evE sub Γ a env st).tst fun k st => if k = true then .ok true st else (evE sub Γ b env st).tst (fun b st => .ok b st) := by
    cases evE sub Γ a env st with
    | ok pv st => cases pv with
      | f f => cases f with
        | bl k => cases k <;> rfl
        | _ => rfl
      | r n => rfl
    | exc c st => rfl
    | bad => rfl
  rw [e] at h
  refine of_tst h fun z st1 L1 H1 e1 s1 h1 => ?_
  cases z with
  | true => exact iteT (h1.ok s1 rfl)
  | false => exact iteF ⟨env, st1, L1, s1, he.ext e1, h1⟩
theorem mw_and1 (h : MT X C sub Γ a xa) : MW X C sub Γ a (.BoolOp .And [xa] pos) := pw_and1 h
theorem mw_or1 (h : MT X C sub Γ a xa) : MW X C sub Γ a (.BoolOp .Or [xa] pos) := pw_or1 h
theorem mt_w (h : MW X C sub Γ a xa) : MT X C sub Γ a xa := h.pt
theorem mv_ite (hc : MT X C sub Γ c xc) (ha : ME X C sub Γ a xa) (hb : ME X C sub Γ b xb) : ME X C sub Γ (.ite c a b) (.IfExp xc xa xb pos) := by
  refine PE_imp (pe_ifExp hc ha hb) fun σ H Q q => ?_
  obtain ⟨env, st, L, hs, he, h⟩ := q
  simp only [evE] at h
  refine ⟨env, st, L, hs, he, of_tst h fun z st1 L1 H1 e1 s1 h1 => ?_⟩
  cases z with
  | true => exact iteT ⟨env, st1, L1, s1, he.ext e1, h1⟩
  | false => exact iteF ⟨env, st1, L1, s1, he.ext e1, h1⟩
theorem mv_neg (ha : ME X C sub Γ a xa) : ME X C sub Γ (.neg a) (.UnaryOp .USub xa pos) := by
  refine PE_imp (pe_un un_neg ha) fun σ H Q q => ?_
  obtain ⟨env, st, L, hs, he, h⟩ := q
  simp only [evE, R.fr] at h
  refine ⟨env, st, L, hs, he, h.bind fun pv st1 L1 v H1 _ e1 s1 r1 h1 => ?_⟩
  obtain ⟨f, rfl, h1⟩ := of_fr h1
  obtain ⟨z, hz, h1⟩ := of_of h1
  cases f with
  | int i => cases hz; exact ⟨i, r1, h1.ok s1 rfl⟩
  | _ => cases hz
/-! ### arguments -/
theorem me_nil : MEs X C sub Γ .nil [] := Fk.PA_imp pa_nil fun σ H Q q => by
  obtain ⟨env, st, L, hs, he, h⟩ := q
  simp only [evEs] at h
  exact h.ok (b := []) hs rfl
theorem me_cons (ha : ME X C sub Γ e x) (hr : MEs X C sub Γ es xs) (hs : starEach (x :: xs) X.env = (false, eval x X.env) :: starEach xs X.env) : MEs X C sub Γ (.cons e es) (x :: xs) := by
  refine Fk.PA_imp (pa_cons ha hr hs) fun σ H Q q => ?_
  obtain ⟨env, st, L, hs, he, h⟩ := q
  simp only [evEs] at h
  refine ⟨env, st, L, hs, he, h.bind fun pa st1 L1 v H1 _ e1 s1 r1 h1 => ?_⟩
  refine ⟨env, st1, L1, s1, he.ext e1, h1.bind fun pb st2 L2 w H2 _ e2 s2 r2 h2 => ?_⟩
  exact h2.ok s2 ⟨v, w, rfl, VP.ext e2 r1, r2⟩
theorem mv_tup {k : Nat} (h : MEs X C sub Γ es xs) (hle : ∀ env st vs st', evEs sub Γ es env st = .ok vs st' → vs.length ≤ 1000) : ME X C sub Γ (.tup es) (.Tuple xs k pos) := by
  refine PE_imp (pe_tup h) fun σ H Q q => ?_
  obtain ⟨env, st, L, hs, he, h⟩ := q
  simp only [evE] at h
  refine ⟨env, st, L, hs, he, h.bind fun vs st1 L1 ws H1 hev e1 s1 r1 h1 => ?_⟩
  obtain ⟨z, hz, h1⟩ := of_of h1
  rw [Option.map_eq_some_iff] at hz
  obtain ⟨fs, hz, rfl⟩ := hz
  refine ⟨Fk.small (by rw [VPs.length r1]; exact hle _ _ _ _ hev), fun p hp => ?_⟩
  have sm := Fk.same_new (o := .tup ws) hp
  exact h1 L1 _ _ (s1.extS sm) (s1.same sm) ⟨p, ws, rfl, s1.fresh hp, upd_same, (VPs.fr hz r1).ext (s1.extS sm)⟩
theorem mv_lst (h : MEs X C sub Γ es xs) (hle : ∀ env st vs st', evEs sub Γ es env st = .ok vs st' → vs.length ≤ 1000) : ME X C sub Γ (.lst es) (.List xs pos) := by
  refine PE_imp (pe_lst h) fun σ H Q q => ?_
  obtain ⟨env, st, L, hs, he, h⟩ := q
  simp only [evE] at h
  refine ⟨env, st, L, hs, he, h.bind fun vs st1 L1 ws H1 hev e1 s1 r1 h1 => ?_⟩
  obtain ⟨z, hz, h1⟩ := of_of h1
  rw [Option.map_eq_some_iff] at hz
  obtain ⟨fs, hz, rfl⟩ := hz
  refine ⟨Fk.small (by rw [VPs.length r1]; exact hle _ _ _ _ hev), fun p hp => ?_⟩
  have sm := Fk.same_new (o := .lst ws) hp
  exact h1 L1 _ _ (s1.extS sm) (s1.same sm) ⟨p, ws, rfl, s1.fresh hp, upd_same, (VPs.fr hz r1).ext (s1.extS sm)⟩
theorem mv_mlst (h : MEs X C sub Γ es xs) (hle : ∀ env st vs st', evEs sub Γ es env st = .ok vs st' → vs.length ≤ 1000) : ME X C sub Γ (.mlst es) (.List xs pos) := by
  refine PE_imp (pe_lst h) fun σ H Q q => ?_
  obtain ⟨env, st, L, hs, he, h⟩ := q
  simp only [evE] at h
  refine ⟨env, st, L, hs, he, h.bind fun vs st1 L1 ws H1 hev e1 s1 r1 h1 => ?_⟩
  refine ⟨Fk.small (by rw [VPs.length r1]; exact hle _ _ _ _ hev), fun p hp => ?_⟩
  have sm := Fk.same_new (o := .lst ws) hp
  have ex := s1.extN sm hp
  exact h1 _ _ _ ex (s1.new sm hp ⟨ws, upd_same, r1.ext ex⟩ ex) ⟨p, by show (L1.m ++ [p])[st1.length]? = _; rw [← s1.len]; simp, rfl⟩
end
end MP

/-! subscripts, slices, calls, built-ins -/
namespace MP
open PySem L2
theorem allInts_some : ∀ {xs : List FV} {ns : List Int}, allInts xs = some ns → xs = nums ns
  | [], ns, h => by cases h; rfl
  | .int i :: xs, ns, h => by
    simp only [allInts, Option.map_eq_some_iff] at h
    obtain ⟨ms, h, rfl⟩ := h
    rw [allInts_some h]; rfl
  | .non :: _, _, h | .bl _ :: _, _, h | .str _ :: _, _, h | .tup _ :: _, _, h | .lst _ :: _, _, h | .ins _ _ :: _, _, h | .exc _ :: _, _, h | .scr _ :: _, _, h => by simp [allInts] at h
theorem allInts_nums : ∀ ns : List Int, allInts (nums ns) = some ns
  | [] => rfl
  | n :: ns => by simp [nums, allInts]; exact allInts_nums ns
def blsF (bs : List Bool) : List FV := bs.map .bl
theorem allBls_some : ∀ {xs : List FV} {ns : List Bool}, allBls xs = some ns → xs = blsF ns
  | [], ns, h => by cases h; rfl
  | .bl i :: xs, ns, h => by
    simp only [allBls, Option.map_eq_some_iff] at h
    obtain ⟨ms, h, rfl⟩ := h
    rw [allBls_some h]; rfl
  | .non :: _, _, h | .int _ :: _, _, h | .str _ :: _, _, h | .tup _ :: _, _, h | .lst _ :: _, _, h | .ins _ _ :: _, _, h | .exc _ :: _, _, h | .scr _ :: _, _, h => by simp [allBls] at h
def strsF (bs : List (List Nat)) : List FV := bs.map .str
theorem allStrs_some : ∀ {xs : List FV} {ns : List (List Nat)}, allStrs xs = some ns → xs = strsF ns
  | [], ns, h => by cases h; rfl
  | .str i :: xs, ns, h => by
    simp only [allStrs, Option.map_eq_some_iff] at h
    obtain ⟨ms, h, rfl⟩ := h
    rw [allStrs_some h]; rfl
  | .non :: _, _, h | .int _ :: _, _, h | .bl _ :: _, _, h | .tup _ :: _, _, h | .lst _ :: _, _, h | .ins _ _ :: _, _, h | .exc _ :: _, _, h | .scr _ :: _, _, h => by simp [allStrs] at h
section
variable {C : CT} {L : Lay} {H : Hp}
theorem VFs.bls : ∀ {ns : List Bool} {vs : List V}, VFs C L.all H (blsF ns) vs → vs = ns.map V.bl
  | [], _, h => h
  | n :: ns, _, ⟨w, vs, e1, h, r⟩ => by
    rw [e1, VFs.bls r]
    rw [show w = V.bl n from h]
    rfl
theorem VFs.strs : ∀ {ns : List (List Nat)} {vs : List V}, VFs C L.all H (strsF ns) vs → vs = (ns.map fun s => (⟨s.toArray⟩ : Str)).map V.str
  | [], _, h => h
  | n :: ns, _, ⟨w, vs, e1, h, r⟩ => by
    rw [e1, VFs.strs r]
    rw [show w = V.str ⟨n.toArray⟩ from h]
    rfl
theorem VFs.at? {xs : List FV} {vs : List V} {i : Int} {x : FV} (h : VFs C L.all H xs vs) (e : atIx xs i = some x) : ∃ v, atI vs i = some v ∧ VF C L.all H x v := by
  have hl := h.length
  unfold atIx at e
  unfold atI ixN
  by_cases h0 : 0 ≤ i
  · rw [if_pos h0] at e ⊢
    obtain ⟨v, e2, r⟩ := h.get e
    have hi := (List.getElem?_eq_some_iff.mp e).1
    rw [if_pos (by omega)]
    exact ⟨v, e2, r⟩
  · rw [if_neg h0] at e ⊢
    by_cases h1 : -(xs.length : Int) ≤ i
    · rw [if_pos h1] at e
      obtain ⟨v, e2, r⟩ := h.get e
      rw [if_pos (by rw [hl]; exact h1)]
      exact ⟨v, by show vs[(i + (vs.length : Int)).toNat]? = _; rw [hl]; exact e2, r⟩
    · rw [if_neg h1] at e; cases e
theorem VPs.at? {xs : List PV} {vs : List V} {i : Int} {x : PV} (h : VPs C L H xs vs) (e : atIx xs i = some x) : ∃ v, atI vs i = some v ∧ VP C L H x v := by
  have hl := h.length
  unfold atIx at e
  unfold atI ixN
  by_cases h0 : 0 ≤ i
  · rw [if_pos h0] at e ⊢
    obtain ⟨v, e2, r⟩ := h.get e
    have hi := (List.getElem?_eq_some_iff.mp e).1
    rw [if_pos (by omega)]
    exact ⟨v, e2, r⟩
  · rw [if_neg h0] at e ⊢
    by_cases h1 : -(xs.length : Int) ≤ i
    · rw [if_pos h1] at e
      obtain ⟨v, e2, r⟩ := h.get e
      rw [if_pos (by rw [hl]; exact h1)]
      exact ⟨v, by show vs[(i + (vs.length : Int)).toNat]? = _; rw [hl]; exact e2, r⟩
    · rw [if_neg h1] at e; cases e
theorem atIx_map {α β : Type} (f : α → β) (xs : List α) (i : Int) : atIx (xs.map f) i = (atIx xs i).map f := by
  unfold atIx
  rw [List.length_map]
  split
  · rw [List.getElem?_map]
  · split
    · rw [List.getElem?_map]
    · rfl
theorem atI_list {α : Type} {xs : List α} {i : Int} {c : α} (e : atIx xs i = some c) : atI xs i = some c := by
  unfold atIx at e
  unfold atI ixN
  by_cases h0 : 0 ≤ i
  · rw [if_pos h0] at e ⊢
    have hi := (List.getElem?_eq_some_iff.mp e).1
    rw [if_pos (by omega)]
    exact e
  · rw [if_neg h0] at e ⊢
    by_cases h1 : -(xs.length : Int) ≤ i
    · rw [if_pos h1] at e ⊢; exact e
    · rw [if_neg h1] at e; cases e
end
theorem line_le {n : Nat} (h : n ≤ line) : n ≤ sizeLine := Nat.le_trans h (by decide)
section
variable {X : Cx} {C : CT} {σ : St} {sub : Nat → Nat → Option Bool} {Γ : Call} {a b c e i : E} {es : Es} {xa xb xc x xi : Expr} {xs : List Expr} {pos p p2 : Pos} {n : Str}
theorem mv_ix (hK : C.K = X.K) (ha : ME X C sub Γ a xa) (hi : ME X C sub Γ i xi) (hs : PlainIx xi) : ME X C sub Γ (.ix a i) (.Subscript xa xi pos) := by
  refine PE_imp (pe_ix (ix_list.or (ix_tup.or ix_str)) ha hi hs) fun σ H Q q => ?_
  obtain ⟨env, st, L, hs, he, h⟩ := q
  simp only [evE, R.fr] at h
  refine ⟨env, st, L, hs, he, h.bind fun pa st1 L1 v H1 _ e1 s1 r1 h1 => ?_⟩
  refine ⟨env, st1, L1, s1, he.ext e1, h1.bind fun pb st2 L2 w H2 _ e2 s2 r2 h2 => ?_⟩
  obtain ⟨k, rfl, hb⟩ := of_fr h2
  clear h2
  obtain ⟨z, hz, h2⟩ := of_of hb
  clear hb
  have r1 := VP.ext e2 r1
  cases pa with
  | f f =>
    cases f with
    | tup xs =>
      cases k with
      | int i =>
        simp only [ixS, Option.map_eq_some_iff] at hz
        obtain ⟨y, hz, rfl⟩ := hz
        obtain ⟨p, vs, rfl, np, hp, rs⟩ := r1
        obtain ⟨u, e3, r3⟩ := rs.at? hz
        exact .inr (.inl ⟨p, vs, i, u, rfl, r2, SqT.of hp, e3, h2.ok s2 r3⟩)
      | _ => simp [ixS] at hz
    | lst xs =>
      cases k with
      | int i =>
        simp only [ixS, Option.map_eq_some_iff] at hz
        obtain ⟨y, hz, rfl⟩ := hz
        obtain ⟨p, vs, rfl, np, hp, rs⟩ := r1
        obtain ⟨u, e3, r3⟩ := rs.at? hz
        exact .inl ⟨p, vs, i, u, rfl, r2, SqL.of hp, e3, h2.ok s2 r3⟩
      | _ => simp [ixS] at hz
    | scr xs =>
      cases k with
      | int i =>
        simp only [ixS, Option.map_eq_some_iff] at hz
        obtain ⟨y, hz, rfl⟩ := hz
        obtain ⟨p, rfl, hp⟩ := VF.scrSq r1
        rw [hK] at hp
        have e3 : atI (xs.map V.int) i = some (.int y) := by
          refine atI_list ?_
          rw [atIx_map, hz]; rfl
        exact .inl ⟨p, _, i, _, rfl, r2, hp, e3, h2.ok s2 rfl⟩
      | _ => simp [ixS] at hz
    | str xs =>
      cases k with
      | int i =>
        simp only [ixS, g] at hz
        split at hz
        · rename_i hl
          simp only [Option.bind_some, Option.map_eq_some_iff] at hz
          obtain ⟨y, hz, rfl⟩ := hz
          refine .inr (.inr ⟨⟨xs.toArray⟩, i, y, r1, r2, ?_, ?_, h2.ok s2 rfl⟩)
          · exact line_le (by simpa [Str.length] using of_decide_eq_true hl)
          · exact atI_list hz
        · cases hz
      | _ => simp [ixS] at hz
    | _ => simp [ixS] at hz
  | r n =>
    simp only [ixS] at hz
    cases ho : st2[n]? with
    | none => rw [ho] at hz; cases hz
    | some o =>
      rw [ho] at hz
      cases o with
      | lst xs =>
        cases k with
        | int i =>
          obtain ⟨p, hp, hob⟩ := s2.obj n _ ho
          obtain ⟨p', hp', rfl⟩ := r1
          rw [hp] at hp'
          cases hp'
          obtain ⟨vs, hv, rs⟩ := hob
          obtain ⟨u, e3, r3⟩ := rs.at? hz
          exact .inl ⟨p, vs, i, u, rfl, r2, SqL.of hv, e3, h2.ok s2 r3⟩
        | _ => cases hz
      | _ => cases hz
/-! ### slices -/
theorem sIx_nat' {n d : Nat} {j : Int} (h : 0 ≤ j) : HT.sIx n d (some j) = min j.toNat n := Fk.sIx_nat' h
theorem cut_eq {α : Type} (xs : List α) (lo hi : Option Int) (h1 : ∀ i ∈ lo, 0 ≤ i) (h2 : ∀ i ∈ hi, 0 ≤ i) :
    (xs.drop (HT.sIx xs.length 0 lo)).take (HT.sIx xs.length xs.length hi - HT.sIx xs.length 0 lo) = ((hi.map fun i => xs.take i.toNat).getD xs).drop ((lo.map Int.toNat).getD 0) := by
  have el : HT.sIx xs.length 0 lo = min ((lo.map Int.toNat).getD 0) xs.length := by
    cases lo with
    | none => simp [HT.sIx_none]
    | some i => rw [sIx_nat' (h1 i rfl)]; rfl
  have eh : ((hi.map fun i => xs.take i.toNat).getD xs) = xs.take (HT.sIx xs.length xs.length hi) := by
    cases hi with
    | none => simp [HT.sIx_none]
    | some i =>
      rw [sIx_nat' (h2 i rfl)]
      show xs.take i.toNat = _
      by_cases hj : i.toNat ≤ xs.length
      · rw [Nat.min_eq_left hj]
      · rw [Nat.min_eq_right (by omega), List.take_length, List.take_of_length_le (by omega)]
  rw [el, eh]
  generalize HT.sIx xs.length xs.length hi = m
  generalize (lo.map Int.toNat).getD 0 = k
  by_cases hk : k ≤ xs.length
  · rw [Nat.min_eq_left hk, List.drop_take]
  · rw [Nat.min_eq_right (by omega), List.drop_of_length_le (Nat.le_refl _), List.take_nil, List.drop_of_length_le (by rw [List.length_take]; omega)]
section
variable {L : Lay} {H : Hp} {st : Store}
def rCut (K : PySem.W.Frag) : V → Option Int → Option Int → Hp → VK → Prop := fun x lo hi H Q => rSlL K x lo hi H Q ∨ rSlA K x lo hi H Q ∨ rSlS x lo hi H Q
theorem SlR.or {r r' : V → Option Int → Option Int → Hp → VK → Prop} (h : SlR X r) (h' : SlR X r') : SlR X (fun x lo hi H Q => r x lo hi H Q ∨ r' x lo hi H Q) := by
  intro pins s σ H x v vl vu lo hi sl Q I rx hs pl pu q
  rcases q with q | q
  · exact h pins s σ H x v vl vu lo hi sl Q I rx hs pl pu q
  · exact h' pins s σ H x v vl vu lo hi sl Q I rx hs pl pu q
theorem sl_cut : SlR X (rCut X.K) := SlR.or sl_list (SlR.or sl_tupA sl_str)
theorem cut_sound {x : FV} {z : FV} {v : V} {lo hi : Option Int} {Q : VK} (hz : cutF x lo hi = some z) (s : StR C L st H) (r : VF C L.all H x v) (h : Ans X C σ L H (relV C) (.ok (.f z) st) Q) : rCut X.K v lo hi H Q := by
  unfold cutF at hz
  split at hz
  · rename_i hc
    cases x with
    | lst xs =>
      cases hz
      obtain ⟨a, vs, rfl, na, ha, rs⟩ := r
      refine .inl ⟨a, vs, rfl, SqL.of ha, fun p hp => ?_⟩
      have sm := Fk.same_new (o := .lst (cutV vs lo hi)) hp
      refine h L _ _ (s.extS sm) (s.same sm) ⟨p, _, rfl, s.fresh hp, upd_same, VFs.ext (s.extS sm) ?_⟩
      unfold cutV
      rw [cut_eq vs lo hi hc.1 hc.2]
      cases hi with
      | none => exact rs.drop _
      | some j => exact (rs.take _).drop _
    | tup xs =>
      cases hz
      obtain ⟨a, vs, rfl, na, ha, rs⟩ := r
      have key : VFs C L.all H (((hi.map fun i => xs.take i.toNat).getD xs).drop ((lo.map Int.toNat).getD 0)) (cutV vs lo hi) := by
        unfold cutV
        rw [cut_eq vs lo hi hc.1 hc.2]
        cases hi with
        | none => exact rs.drop _
        | some j => exact (rs.take _).drop _
      refine .inr (.inl ⟨a, vs, rfl, SqT.of ha, fun e => ?_, fun _ p hp => ?_⟩)
      · refine h.ok s ⟨a, vs, rfl, na, ha, ?_⟩
        have e2 : cutV vs lo hi = vs := by
          unfold cutV
          rw [e.1, e.2]
          simp
        rw [e2] at key
        exact key
      · have sm := Fk.same_new (o := .tup (cutV vs lo hi)) hp
        exact h L _ _ (s.extS sm) (s.same sm) ⟨p, _, rfl, s.fresh hp, upd_same, VFs.ext (s.extS sm) key⟩
    | str xs =>
      simp only [g] at hz
      split at hz
      · rename_i hl
        cases hz
        refine .inr (.inr ⟨⟨xs.toArray⟩, r, ?_, ?_⟩)
        · exact line_le (by simpa [Str.length] using of_decide_eq_true hl)
        · refine h.ok s ?_
          show V.str _ = V.str _
          unfold cutS
          have e := cut_eq xs lo hi hc.1 hc.2
          simp only [Str.length, List.size_toArray]
          rw [e]
      · cases hz
    | _ => cases hz
  · cases hz
end
theorem po_none' : PO X none tNoPart := po_none
theorem part_sound {f : E} {env : Env} {st : Store} {L : Lay} {σ : St} {H : Hp} {Q' : Option Int → Hp → Prop} {Q : VK} {k : FV → Store → R PV} (s : StR C L st H) (he : EnvR C L env σ H) (h : Ans X C σ L H (relV C) ((evE sub Γ f env st).bind fun pv st => pv.fr st k) Q)
    (q : ∀ (i : Int) st1 L1 H1, Ext L H L1 H1 → StR C L1 st1 H1 → Ans X C σ L1 H1 (relV C) (k (.int i) st1) Q → Q' (some i) H1) (hk : ∀ x st, (∀ i, x ≠ .int i) → k x st = .bad) : tPart (tE X C (evE sub Γ f)) σ H Q' := by
  refine ⟨env, st, L, s, he, h.bind fun pa st1 L1 v H1 _ e1 s1 r1 h1 => ?_⟩
  obtain ⟨x, rfl, hb⟩ := of_fr h1
  by_cases hx : ∃ i, x = .int i
  · obtain ⟨i, rfl⟩ := hx
    exact ⟨i, r1, q i st1 L1 H1 e1 s1 hb⟩
  · rw [hk x st1 fun i e => hx ⟨i, e⟩] at hb
    exact hb.elim
theorem of_of' {α β γ : Type} {rel : Lay → Hp → α → β → Prop} {o : Option γ} {st : Store} {f : γ → Store → R α} {L : Lay} {H : Hp} {Q : β → Hp → Prop} (h : Ans X C σ L H rel ((R.of o st).bind f) Q) : ∃ a, o = some a ∧ Ans X C σ L H rel (f a st) Q := by
  cases o with
  | none => exact h.elim
  | some a => exact ⟨a, rfl, h⟩
theorem toInt_none {x : FV} (h : ∀ i, x ≠ .int i) : x.toInt? = none := by
  cases x with
  | int i => exact absurd rfl (h i)
  | _ => rfl
theorem mv_cutTo (ha : ME X C sub Γ a xa) (hb : ME X C sub Γ b xb) : ME X C sub Γ (.cutTo a b) (.Subscript xa (.Slice none (some xb) none p2) pos) := by
  refine PE_imp (pe_slice sl_cut ha po_none (po_some hb)) fun σ H Q q => ?_
  obtain ⟨env, st, L, hs, he, h⟩ := q
  simp only [evE, R.fr] at h
  refine ⟨env, st, L, hs, he, h.bind fun pa st1 L1 v H1 _ e1 s1 r1 h1 => ?_⟩
  obtain ⟨fa, rfl, h1⟩ := of_fr h1
  delta tNoPart
  dsimp only
  refine part_sound s1 (he.ext e1) h1 (fun i st2 L2 H2 e2 s2 h2 => ?_) fun x st hx => by rw [toInt_none hx]; rfl
  obtain ⟨z, hz, h2⟩ := of_of h2
  simp only [FV.toInt?, Option.bind_some, Option.map_eq_some_iff] at hz
  obtain ⟨z', hz, rfl⟩ := hz
  exact cut_sound hz s2 (VF.ext e2 r1) h2
theorem mv_cutFrom (ha : ME X C sub Γ a xa) (hb : ME X C sub Γ b xb) : ME X C sub Γ (.cutFrom a b) (.Subscript xa (.Slice (some xb) none none p2) pos) := by
  refine PE_imp (pe_slice sl_cut ha (po_some hb) po_none) fun σ H Q q => ?_
  obtain ⟨env, st, L, hs, he, h⟩ := q
  simp only [evE, R.fr] at h
  refine ⟨env, st, L, hs, he, h.bind fun pa st1 L1 v H1 _ e1 s1 r1 h1 => ?_⟩
  obtain ⟨fa, rfl, h1⟩ := of_fr h1
  refine part_sound s1 (he.ext e1) h1 (fun i st2 L2 H2 e2 s2 h2 => ?_) fun x st hx => by rw [toInt_none hx]; rfl
  obtain ⟨z, hz, h2⟩ := of_of h2
  simp only [FV.toInt?, Option.bind_some, Option.map_eq_some_iff] at hz
  obtain ⟨z', hz, rfl⟩ := hz
  delta tNoPart
  dsimp only
  exact cut_sound hz s2 (VF.ext e2 r1) h2
theorem mv_cut (ha : ME X C sub Γ a xa) (hb : ME X C sub Γ b xb) (hc : ME X C sub Γ c xc) : ME X C sub Γ (.cut a b c) (.Subscript xa (.Slice (some xb) (some xc) none p2) pos) := by
  refine PE_imp (pe_slice sl_cut ha (po_some hb) (po_some hc)) fun σ H Q q => ?_
  obtain ⟨env, st, L, hs, he, h⟩ := q
  simp only [evE, R.fr] at h
  refine ⟨env, st, L, hs, he, h.bind fun pa st1 L1 v H1 _ e1 s1 r1 h1 => ?_⟩
  obtain ⟨fa, rfl, h1⟩ := of_fr h1
  refine ⟨env, st1, L1, s1, he.ext e1, h1.bind fun pb st2 L2 w H2 _ e2 s2 r2 h2 => ?_⟩
  obtain ⟨fb, rfl, h2⟩ := of_fr h2
  obtain ⟨i, hi, h2⟩ := of_of' h2
  have ei : fb = .int i := by
    cases fb with
    | int j => cases hi; rfl
    | _ => cases hi
  subst ei
  refine ⟨i, r2, ?_⟩
  refine part_sound s2 (he.ext (e1.trans e2)) h2 (fun j st3 L3 H3 e3 s3 h3 => ?_) fun x st hx => by rw [toInt_none hx]; rfl
  obtain ⟨z, hz, h3⟩ := of_of h3
  simp only [FV.toInt?, Option.bind_some, Option.map_eq_some_iff] at hz
  obtain ⟨z', hz, rfl⟩ := hz
  exact cut_sound hz s3 (VF.ext (e2.trans e3) r1) h3
end
end MP

/-! calls of defs, built-in functions, isinstance, comprehensions -/
namespace MP
open PySem L2
/-- an exception is taken here, at these slots -/
def Acc (X : Cx) (σ : St) : XK := fun cls d H' => Takes X (fun cls' d' σ' H'' => cls' = cls ∧ d' = d ∧ σ' = σ ∧ H'' = H')
theorem passA {X : Cx} (σ : St) : PassesAt (L2.CX X.prog X.w) X σ (Acc X σ) := fun pins H s e s' I c => by
  have x := XE.of_call (W := fun cls d σ' H' => σ' = σ ∧ Acc X σ cls d H') I (fun _ _ _ h => ⟨rfl, h⟩) c
  obtain ⟨a, B, sI, pins, σ', H, cls, d, e1, e2, e3, e4, e5, e6, e7, e8, e9, ac⟩ := x
  subst e9
  exact ac e s' ⟨a, B, sI, pins, σ', H, cls, d, e1, e2, e3, e4, e5, e6, e7, e8, rfl, rfl, rfl, rfl⟩
/-- what a def of the machine promises -/
def FnSem (C : CT) (Γ : Call) (f : Nat) : Sp := fun vs H Q E => ∃ args st L, StR C L st H ∧ VPs C L H args vs ∧ match Γ f args st with
  | .ok pv st' => ∀ L' v H', Ext L H L' H' → StR C L' st' H' → VP C L' H' pv v → Q v H'
  | .exc c st' => ∀ L' H', Ext L H L' H' → StR C L' st' H' → E (.ref (C.ca c)) none H'
  | .bad => False
/-- what ties a def to where it stands -/
inductive Tie where
  | fn (x : Str) | meth (c : Nat) (m : Str) | init (c : Nat) (dv : List V)
def Tie.ok (K : PySem.W.Frag) (mg : Str → Option Value) (C : CT) : Tie → Addr → List Value → Prop
  | .fn x, fa, ds => mg x = some (.ref fa) ∧ ds = []
  | .meth c m, fa, ds => Meth K (C.ca c) m fa ∧ ds = []
  | .init c dv, fa, ds => Mk K (C.ca c) fa ∧ Vals dv ds
structure DefK (P : Program) (w : World) (K : PySem.W.Frag) (mg : Str → Option Value) (base : Heap) (C : CT) (Γ : Call) (f : Nat) (k : Nat) (tie : Tie) : Prop where
  ex : ∃ fa fd ps ds, FnOk P w K mg base (L2.CX P w) k fa fd ps (FnSem C Γ f) ∧ PySem.W.keepIn K (.ref fa) = true ∧ Binds K fd ps ds ∧ tie.ok K mg C fa ds
section
variable {X : Cx} {C : CT} {σ : St} {sub : Nat → Nat → Option Bool} {Γ : Call} {a b c e i : E} {es : Es} {xa xb xc x xi : Expr} {xs : List Expr} {pos p p2 : Pos} {n : Str} {f k : Nat}
theorem sem_of {L : Lay} {H : Hp} {st : Store} {args : List PV} {vs : List V} {Q : VK} (s : StR C L st H) (r : VPs C L H args vs) (h : Ans X C σ L H (relV C) (Γ f args st) Q) : FnSem C Γ f vs H Q (Acc X σ) := by
  refine ⟨args, st, L, s, r, ?_⟩
  cases hr : Γ f args st with
  | bad => rw [hr] at h; exact h
  | ok pv st' => rw [hr] at h; exact fun L' v H' e1 s1 r1 => h L' v H' e1 s1 r1
  | exc c st' =>
    rw [hr] at h
    exact fun L' H' e1 s1 => takes_mono' h fun cls d σ' H2 ⟨z1, z2, z4, z3⟩ => by subst z1 z2 z3 z4; exact ⟨rfl, rfl, rfl, L', e1, s1⟩
theorem mv_call (D : DefK X.prog X.w X.K X.mg X.base C Γ f k (.fn n)) (hr : Room k X.A) (hg : Gl X n) (ha : MEs X C sub Γ es (x :: xs)) (hdb : (n == ("__debug__" : Str)) = false) (he : starEach (x :: xs) X.env = (false, eval x X.env) :: starEach xs X.env)
    (hpl : (backTo pos (starEach xs X.env)).any (·.1) = false) : ME X C sub Γ (.call f es) (.Call (.Name n p) (x :: xs) [] pos) := by
  obtain ⟨fa, fd, ps, ds, F, hk, hb, hm, e⟩ := D.ex
  subst e
  refine PE_imp (pe_callSD (E := Acc X) (dvs := []) F hr hg hm hk hb .nil passA ha hdb he hpl) fun σ H Q q => ?_
  obtain ⟨env, st, L, hs, he, h⟩ := q
  simp only [evE] at h
  refine ⟨env, st, L, hs, he, h.bind fun vs st1 L1 ws H1 _ e1 s1 r1 h1 => ?_⟩
  rw [List.append_nil]
  exact sem_of s1 r1 h1
/-! ### built-in functions -/
def BltOk (X : Cx) (C : CT) (b : BI) (f : Value) : Prop := ∃ r, CallR X f r ∧ ∀ (st : Store) (vs : List PV) (z : FV) (ws : List V) (L : Lay) (H : Hp) (Q : VK), bltS st b vs = some z → StR C L st H → VPs C L H vs ws →
  (∀ v' H', Ext L H L H' → StR C L st H' → VF C L.all H' z v' → Q v' H') → r ws H Q
theorem CallR.or {f : Value} {r r' : List V → Hp → VK → Prop} (h : CallR X f r) (h' : CallR X f r') : CallR X f (fun vs H Q => r vs H Q ∨ r' vs H Q) := by
  intro pins s σ H xs us Q I rv q
  rcases q with q | q
  · exact h pins s σ H xs us Q I rv q
  · exact h' pins s σ H xs us Q I rv q
theorem mv_blt {bi : BI} {id : String} (hB : BltOk X C bi (.builtin id)) (hg : Gl X n) (hm : X.mg n = none) (hv : bootBuiltins n = some (.builtin id)) (ha : MEs X C sub Γ es (x :: xs)) (hn : n ≠ "__name__") (hdb : (n == ("__debug__" : Str)) = false)
    (he : starEach (x :: xs) X.env = (false, eval x X.env) :: starEach xs X.env) (hpl : (backTo pos (starEach xs X.env)).any (·.1) = false) : ME X C sub Γ (.blt bi es) (.Call (.Name n p) (x :: xs) [] pos) := by
  obtain ⟨r, hc, hr⟩ := hB
  refine PE_imp (pe_callB hc hg hm hv ha hn hdb he hpl) fun σ H Q q => ?_
  obtain ⟨env, st, L, hs, he, h⟩ := q
  simp only [evE] at h
  refine ⟨env, st, L, hs, he, h.bind fun vs st1 L1 ws H1 _ e1 s1 r1 h1 => ?_⟩
  obtain ⟨z, hz, h1⟩ := of_of h1
  rw [Option.map_eq_some_iff] at hz
  obtain ⟨z', hz, rfl⟩ := hz
  exact hr st1 vs z' ws L1 H1 Q hz s1 r1 fun v' H' e2 s2 r2 => h1 L1 v' H' e2 s2 r2
theorem mv_bltT {bi : BI} {T : String} (hB : BltOk X C bi (.type T)) (hg : Gl X n) (hm : X.mg n = none) (hv : bootBuiltins n = some (.type T)) (ha : MEs X C sub Γ es (x :: xs)) (hn : n ≠ "__name__") (hdb : (n == ("__debug__" : Str)) = false)
    (he : starEach (x :: xs) X.env = (false, eval x X.env) :: starEach xs X.env) (hpl : (backTo pos (starEach xs X.env)).any (·.1) = false) : ME X C sub Γ (.blt bi es) (.Call (.Name n p) (x :: xs) [] pos) := by
  obtain ⟨r, hc, hr⟩ := hB
  refine PE_imp (pe_callTy hc hg hm hv ha hn hdb he hpl) fun σ H Q q => ?_
  obtain ⟨env, st, L, hs, he, h⟩ := q
  simp only [evE] at h
  refine ⟨env, st, L, hs, he, h.bind fun vs st1 L1 ws H1 _ e1 s1 r1 h1 => ?_⟩
  obtain ⟨z, hz, h1⟩ := of_of h1
  rw [Option.map_eq_some_iff] at hz
  obtain ⟨z', hz, rfl⟩ := hz
  exact hr st1 vs z' ws L1 H1 Q hz s1 r1 fun v' H' e2 s2 r2 => h1 L1 v' H' e2 s2 r2
/-- one list, frozen or of the store, or frozen values -/
theorem blt_cases {st : Store} {bi : BI} {vs : List PV} {z : FV} {ws : List V} {L : Lay} {H : Hp} (hz : bltS st bi vs = some z) (s : StR C L st H) (r : VPs C L H vs ws) :
    (∃ fs, bltF bi fs = some z ∧ VFs C L.all H fs ws) ∨ (∃ xs p us, bltF bi [.lst xs] = some z ∧ ws = [.ref p] ∧ SqL X.K H p us ∧ VFs C L.all H xs us) ∨
    ∃ n kvs p ks, vs = [.r n] ∧ st[n]? = some (.dic kvs) ∧ ws = [.ref p] ∧ H p = some (.dK ks) ∧ KVs C L H kvs ks := by
  unfold bltS at hz
  split at hz
  · rename_i n
    obtain ⟨w, ws', e1, ⟨p, hp, rfl⟩, e2⟩ := r
    have e2 : ws' = [] := e2
    subst e2 e1
    split at hz
    · rename_i xs ho
      rw [Option.bind_eq_some_iff] at hz
      obtain ⟨ys, hy, hz⟩ := hz
      obtain ⟨p', hp', vs, hv, rs⟩ := s.obj n _ ho
      rw [hp] at hp'
      cases hp'
      exact .inr (.inl ⟨ys, p, vs, hz, rfl, SqL.of hv, rs.fr hy⟩)
    · rename_i kvs ho
      obtain ⟨p', hp', ks, hv, rs⟩ := s.obj n _ ho
      rw [hp] at hp'
      cases hp'
      exact .inr (.inr ⟨n, kvs, p, ks, rfl, ho, rfl, hv, rs⟩)
    · cases hz
  · rw [Option.bind_eq_some_iff] at hz
    obtain ⟨fs, hf, hz⟩ := hz
    exact .inl ⟨fs, hz, r.fr hf⟩
theorem VFs.one {fx : FV} {ws : List V} {L : Lay} {H : Hp} (h : VFs C L.all H [fx] ws) : ∃ v, ws = [v] ∧ VF C L.all H fx v := by
  obtain ⟨w, ws', e1, r, e2⟩ := h
  have e2 : ws' = [] := e2
  subst e2
  exact ⟨w, e1, r⟩
theorem VFs.two {fx fy : FV} {ws : List V} {L : Lay} {H : Hp} (h : VFs C L.all H [fx, fy] ws) : ∃ v w, ws = [v, w] ∧ VF C L.all H fx v ∧ VF C L.all H fy w := by
  obtain ⟨w, ws', e1, r, ws'', ws3, e2, r2, e3⟩ := h
  have e3 : ws3 = [] := e3
  subst e3 e2
  exact ⟨w, ws'', e1, r, r2⟩
theorem KVs.length {L : Lay} {H : Hp} : ∀ {kvs : List (KY × PV)} {ks : List (Key × V)}, KVs C L H kvs ks → ks.length = kvs.length
  | [], _, h => by rw [show _ = [] from h]; rfl
  | (k, x) :: r, _, ⟨w, ws, e, _, t⟩ => by rw [e]; simp [KVs.length t]
theorem blt_len (hK : C.K = X.K) : BltOk X C .len (.builtin "len") := by
  refine ⟨_, call_len.or call_lenD, fun st vs z ws L H Q hz s r q => ?_⟩
  have fin : ∀ m : Int, z = .int m → Q (.int m) H := fun m e => q _ H (Ext.refl L H) s (by rw [e]; rfl)
  rcases blt_cases (X := X) hz s r with ⟨fs, hf, rf⟩ | ⟨xs, p, us, hf, rfl, hs, rs⟩ | ⟨n, kvs, p, ks, rfl, ho, rfl, hp, rk⟩
  · unfold bltF at hf
    split at hf <;> try (first | (cases hf; done) | (rename_i h; cases h; done))
    · rename_i xs _
      obtain ⟨v, rfl, a, us, rfl, _, ha, rs⟩ := rf.one
      cases hf
      exact .inl ⟨.ref a, us.length, rfl, .inr ⟨us, SqT.of ha, rfl⟩, by rw [rs.length]; exact fin _ rfl⟩
    · rename_i xs _
      obtain ⟨v, rfl, h⟩ := rf.one
      obtain ⟨a, rfl, ha⟩ := h.scrSq
      rw [hK] at ha
      cases hf
      exact .inl ⟨.ref a, _, rfl, .inl ⟨_, ha, rfl⟩, by rw [List.length_map]; exact fin _ rfl⟩
    · rename_i xs _
      obtain ⟨v, rfl, a, us, rfl, _, ha, rs⟩ := rf.one
      cases hf
      exact .inl ⟨.ref a, us.length, rfl, .inl ⟨us, SqL.of ha, rfl⟩, by rw [rs.length]; exact fin _ rfl⟩
    · rename_i xs _
      obtain ⟨v, rfl, e⟩ := rf.one
      have e : v = .str ⟨xs.toArray⟩ := e
      subst e
      simp only [g] at hf
      split at hf
      · rename_i hl
        cases hf
        have e2 : (⟨xs.toArray⟩ : Str).length = xs.length := by simp [Str.length]
        exact .inl ⟨.str ⟨xs.toArray⟩, xs.length, rfl, ⟨by rw [e2]; exact line_le (of_decide_eq_true hl), e2.symm⟩, fin _ rfl⟩
      · cases hf
  · have e : z = .int xs.length := by cases hf; rfl
    exact .inl ⟨.ref p, us.length, rfl, .inl ⟨us, hs, rfl⟩, by rw [rs.length]; exact fin _ e⟩
  · have e : z = .int kvs.length := by simp only [bltS, ho] at hz; cases hz; rfl
    exact .inr ⟨p, ks, rfl, hp, by rw [KVs.length rk]; exact fin _ e⟩
end
end MP

/-! operators on values; more built-in functions -/
namespace MP
open PySem L2
mutual
def FV.dat : FV → PyData
  | .non => .none
  | .bl b => .bool b
  | .int i => .int i
  | .str s => .str ⟨s.toArray⟩
  | .tup xs => .tuple (FV.dats xs)
  | .lst xs => .list (FV.dats xs)
  | .ins _ _ => .none
  | .exc _ => .none
  | .scr _ => .none
def FV.dats : List FV → List PyData
  | [] => []
  | x :: xs => FV.dat x :: FV.dats xs
end
mutual
theorem dat_lay : ∀ {x : FV}, x.data = true → x.dat.canLay0 = true
  | .non, _ => by simp [FV.dat, PyData.canLay0]
  | .bl _, _ => by simp [FV.dat, PyData.canLay0]
  | .int _, _ => by simp [FV.dat, PyData.canLay0]
  | .str s, h => by
    simp only [FV.data, List.all_eq_true, decide_eq_true_eq] at h
    simp only [FV.dat, PyData.canLay0, PyData.strOk]
    simpa using h
  | .tup xs, h => by simp only [FV.dat, PyData.canLay0]; exact dats_lay (by simpa [FV.data] using h)
  | .lst xs, h => by simp only [FV.dat, PyData.canLay0]; exact dats_lay (by simpa [FV.data] using h)
  | .ins _ _, h => by simp [FV.data] at h
  | .exc _, h => by simp [FV.data] at h
  | .scr _, h => by simp [FV.data] at h
theorem dats_lay : ∀ {xs : List FV}, FV.datas xs = true → PyData.canLayAll0 (FV.dats xs) = true
  | [], _ => by simp [FV.dats, PyData.canLayAll0]
  | x :: xs, h => by
    simp only [FV.datas, Bool.and_eq_true] at h
    simp only [FV.dats, PyData.canLayAll0, Bool.and_eq_true]
    exact ⟨dat_lay h.1, dats_lay h.2⟩
end
mutual
theorem dat_depth : ∀ (x : FV), x.dat.depth ≤ x.depth
  | .non => by simp [FV.dat, PyData.depth]
  | .bl _ => by simp [FV.dat, PyData.depth]
  | .int _ => by simp [FV.dat, PyData.depth]
  | .str _ => by simp [FV.dat, PyData.depth]
  | .tup xs => by simp only [FV.dat, PyData.depth, FV.depth]; have := dats_depth xs; omega
  | .lst xs => by simp only [FV.dat, PyData.depth, FV.depth]; have := dats_depth xs; omega
  | .ins _ _ => by simp [FV.dat, PyData.depth]
  | .exc _ => by simp [FV.dat, PyData.depth]
  | .scr _ => by simp [FV.dat, PyData.depth]
theorem dats_depth : ∀ (xs : List FV), PyData.depthAll (FV.dats xs) ≤ FV.depths xs
  | [] => by simp [FV.dats, PyData.depthAll, FV.depths]
  | x :: xs => by
    have h1 := dat_depth x
    have h2 := dats_depth xs
    show max _ _ ≤ max _ _
    omega
end
theorem okd_shaped {x : FV} (h : x.okd = true) : SeqAt.shaped x.dat = true := by
  unfold FV.okd at h
  simp only [Bool.and_eq_true, decide_eq_true_eq] at h
  unfold SeqAt.shaped
  rw [dat_lay h.1, decide_eq_true (by have := dat_depth x; omega)]
  rfl
mutual
theorem dat_eqv : ∀ {x y : FV}, x.data = true → y.data = true → PyData.eqv x.dat y.dat = x.eqv y
  | .non, y, _, hy => by cases y <;> simp_all [FV.dat, PyData.eqv, FV.eqv, FV.data]
  | .bl _, y, _, hy => by cases y <;> simp_all [FV.dat, PyData.eqv, FV.eqv, FV.data]
  | .int _, y, _, hy => by cases y <;> simp_all [FV.dat, PyData.eqv, FV.eqv, FV.data]
  | .str s, y, _, hy => by
    cases y <;> simp_all [FV.dat, PyData.eqv, FV.eqv, FV.data]
    rename_i t _
    by_cases e : s = t
    · subst e; simp
    · have : ¬ (⟨s.toArray⟩ : Str) = ⟨t.toArray⟩ := fun z => e (by simpa using z)
      exact (beq_false_of_ne this).trans (beq_false_of_ne e).symm
  | .tup xs, .tup ys, hx, hy => by
    simp only [FV.dat, PyData.eqv, FV.eqv]
    exact dats_eqv (by simpa [FV.data] using hx) (by simpa [FV.data] using hy)
  | .lst xs, .lst ys, hx, hy => by
    simp only [FV.dat, PyData.eqv, FV.eqv]
    exact dats_eqv (by simpa [FV.data] using hx) (by simpa [FV.data] using hy)
  | .tup xs, .non, _, _ | .tup xs, .bl _, _, _ | .tup xs, .int _, _, _ | .tup xs, .str _, _, _ | .tup xs, .lst _, _, _ => by simp [FV.dat, PyData.eqv, FV.eqv]
  | .lst xs, .non, _, _ | .lst xs, .bl _, _, _ | .lst xs, .int _, _, _ | .lst xs, .str _, _, _ | .lst xs, .tup _, _, _ => by simp [FV.dat, PyData.eqv, FV.eqv]
  | .tup xs, .ins _ _, _, hy | .tup xs, .exc _, _, hy | .tup xs, .scr _, _, hy => by simp [FV.data] at hy
  | .lst xs, .ins _ _, _, hy | .lst xs, .exc _, _, hy | .lst xs, .scr _, _, hy => by simp [FV.data] at hy
  | .ins _ _, _, hx, _ => by simp [FV.data] at hx
  | .exc _, _, hx, _ => by simp [FV.data] at hx
  | .scr _, _, hx, _ => by simp [FV.data] at hx
theorem dats_eqv : ∀ {xs ys : List FV}, FV.datas xs = true → FV.datas ys = true → PyData.eqvAll (FV.dats xs) (FV.dats ys) = FV.eqvs xs ys
  | [], [], _, _ => by simp [FV.dats, PyData.eqvAll, FV.eqvs]
  | [], _ :: _, _, _ => by simp [FV.dats, PyData.eqvAll, FV.eqvs]
  | _ :: _, [], _, _ => by simp [FV.dats, PyData.eqvAll, FV.eqvs]
  | x :: xs, y :: ys, hx, hy => by
    simp only [FV.datas, Bool.and_eq_true] at hx hy
    simp only [FV.dats, PyData.eqvAll, FV.eqvs, dat_eqv hx.1 hy.1, dats_eqv hx.2 hy.2]
end
section
variable {X : Cx} {C : CT} {L : Lay} {H : Hp} {K : PySem.W.Frag}
mutual
theorem VF.dp : ∀ {x : FV} {v : V}, x.data = true → VF C L.all H x v → Dp K H v x.dat
  | .non, _, _, h => by cases h; exact .non
  | .bl _, _, _, h => by cases h; exact .bl _
  | .int _, _, _, h => by cases h; exact .int _
  | .str _, _, _, h => by cases h; exact .str _
  | .tup xs, _, hd, ⟨a, vs, e, n, h, r⟩ => by subst e; exact .tup (SqT.of h) (VFs.dp (by simpa [FV.data] using hd) r)
  | .lst xs, _, hd, ⟨a, vs, e, n, h, r⟩ => by subst e; exact .lst (SqL.of h) (VFs.dp (by simpa [FV.data] using hd) r)
  | .ins _ _, _, hd, _ => by simp [FV.data] at hd
  | .exc _, _, hd, _ => by simp [FV.data] at hd
  | .scr _, _, hd, _ => by simp [FV.data] at hd
theorem VFs.dp : ∀ {xs : List FV} {vs : List V}, FV.datas xs = true → VFs C L.all H xs vs → DpAll K H vs (FV.dats xs)
  | [], _, _, h => by rw [show _ = [] from h]; exact .nil
  | x :: xs, _, hd, ⟨w, ws, e, h, r⟩ => by
    simp only [FV.datas, Bool.and_eq_true] at hd
    subst e
    exact .cons (VF.dp hd.1 h) (VFs.dp hd.2 r)
end
theorem okd_data {x : FV} (h : x.okd = true) : x.data = true := by
  unfold FV.okd at h
  simp only [Bool.and_eq_true] at h
  exact h.1
theorem dats_any {xs : List FV} {a : FV} (hx : FV.datas xs = true) (ha : a.data = true) : ((FV.dats xs).any fun z => PyData.eqv z a.dat) = xs.any fun z => z.eqv a := by
  induction xs with
  | nil => rfl
  | cons x xs ih =>
    simp only [FV.datas, Bool.and_eq_true] at hx
    simp only [FV.dats, List.any_cons, dat_eqv hx.1 ha, ih hx.2]
/-- a list or a frozen value, as a frozen value -/
theorem cmp_view {o : CO} {st : Store} {x y : PV} {z : Bool} {v w : V} (hz : cmpS st o x y = some z) (s : StR C L st H) (rx : VP C L H x v) (ry : VP C L H y w) :
    ∃ fx fy, cmpop o fx fy = some z ∧ VF C [] H fx v ∧ VF C [] H fy w ∧ ((∃ n, x = .r n) → ∃ xs, fx = .lst xs) ∧ ((∃ n, y = .r n) → ∃ ys, fy = .lst ys) := by
  have lst : ∀ {n : Nat} {xs : List PV} {fs : List FV} {v : V}, st[n]? = some (.lst xs) → allF xs = some fs → VP C L H (.r n) v → VF C [] H (.lst fs) v := fun {n xs fs v} ho hf ⟨p, hp, e⟩ => by
    obtain ⟨p', hp', vs, hv, rs⟩ := s.obj n _ ho
    rw [hp] at hp'
    cases hp'
    exact ⟨p, vs, e, by simp, hv, VFs.less (by simp) (rs.fr hf)⟩
  have fr : ∀ {f : FV} {v : V}, VP C L H (.f f) v → VF C [] H f v := fun h => VF.less (by simp) h
  cases x with
  | f fx =>
    cases y with
    | f fy => exact ⟨fx, fy, hz, fr rx, fr ry, fun ⟨n, e⟩ => (nomatch e), fun ⟨n, e⟩ => (nomatch e)⟩
    | r m =>
      simp only [cmpS] at hz
      split at hz
      · rename_i xs ho
        rw [Option.bind_eq_some_iff] at hz
        obtain ⟨ys, hy, hz⟩ := hz
        exact ⟨fx, _, hz, fr rx, lst ho hy ry, fun ⟨n, e⟩ => (nomatch e), fun _ => ⟨_, rfl⟩⟩
      · cases hz
  | r n =>
    cases y with
    | f fy =>
      simp only [cmpS] at hz
      split at hz
      · rename_i xs ho
        rw [Option.bind_eq_some_iff] at hz
        obtain ⟨ys, hy, hz⟩ := hz
        exact ⟨_, fy, hz, lst ho hy rx, fr ry, fun _ => ⟨_, rfl⟩, fun ⟨n, e⟩ => (nomatch e)⟩
      · cases hz
    | r m =>
      simp only [cmpS] at hz
      split at hz
      · rename_i xs ys ho ho2
        rw [Option.bind_eq_some_iff] at hz
        obtain ⟨as, ha, hz⟩ := hz
        rw [Option.bind_eq_some_iff] at hz
        obtain ⟨bs, hb, hz⟩ := hz
        exact ⟨_, _, hz, lst ho ha rx, lst ho2 hb ry, fun _ => ⟨_, rfl⟩, fun _ => ⟨_, rfl⟩⟩
      · cases hz
abbrev L0 : Lay := ⟨[], []⟩
theorem ints_some {a b : FV} {p : Int × Int} (h : intsOf a b = some p) : a = .int p.1 ∧ b = .int p.2 := by
  unfold intsOf at h
  split at h
  · cases h; exact ⟨rfl, rfl⟩
  · cases h
theorem cop_int {o : CO} {op : CmpOp} {f : Int → Int → Bool} (h : OpR X (compareOp op) (rI0 fun i j => .bl (f i j))) (hc : ∀ x y, cmpop o x y = (intsOf x y).map fun p => f p.1 p.2) : CopOk X C o op :=
  ⟨_, h, fun x y z v w L H st Q hz s rx ry q => by
    obtain ⟨fx, fy, hz, rx, ry, _⟩ := cmp_view hz s rx ry
    rw [hc, Option.map_eq_some_iff] at hz
    obtain ⟨p, hp, rfl⟩ := hz
    obtain ⟨rfl, rfl⟩ := ints_some hp
    exact ⟨p.1, p.2, rx, ry, q⟩⟩
theorem cop_lt : CopOk X C .lt .Lt := cop_int op_lt fun _ _ => rfl
theorem cop_le : CopOk X C .le .LtE := cop_int op_le fun _ _ => rfl
theorem cop_gt : CopOk X C .gt .Gt := cop_int op_gt fun _ _ => rfl
theorem cop_ge : CopOk X C .ge .GtE := cop_int op_ge fun _ _ => rfl
theorem g_some {α : Type} {c : Bool} {v z : α} (h : g c v = some z) : c = true ∧ z = v := by
  unfold g at h
  split at h
  · rename_i hc; cases h; exact ⟨hc, rfl⟩
  · cases h
theorem cop_eq (hu : X.A.units + 64 < cLine) : CopOk X C .eq .Eq :=
  ⟨_, op_eqD hu, fun x y z v w L H st Q hz s rx ry q => by
    obtain ⟨fx, fy, hz, rx, ry, _⟩ := cmp_view hz s rx ry
    simp only [cmpop] at hz
    obtain ⟨hc, rfl⟩ := g_some hz
    rw [Bool.and_eq_true] at hc
    exact ⟨fx.dat, fy.dat, VF.dp (L := L0) (okd_data hc.1) rx, VF.dp (L := L0) (okd_data hc.2) ry, okd_shaped hc.1, okd_shaped hc.2, by rw [dat_eqv (okd_data hc.1) (okd_data hc.2)]; exact q⟩⟩
theorem cop_ne (hu : X.A.units + 64 < cLine) : CopOk X C .ne .NotEq :=
  ⟨_, op_neD hu, fun x y z v w L H st Q hz s rx ry q => by
    obtain ⟨fx, fy, hz, rx, ry, _⟩ := cmp_view hz s rx ry
    simp only [cmpop] at hz
    obtain ⟨hc, rfl⟩ := g_some hz
    rw [Bool.and_eq_true] at hc
    exact ⟨fx.dat, fy.dat, VF.dp (L := L0) (okd_data hc.1) rx, VF.dp (L := L0) (okd_data hc.2) ry, okd_shaped hc.1, okd_shaped hc.2, by rw [dat_eqv (okd_data hc.1) (okd_data hc.2)]; exact q⟩⟩
theorem in_cases {a b : FV} {z : Bool} (h : inF a b = some z) : ∃ xs, (b = .tup xs ∨ b = .lst xs) ∧ a.okd = true ∧ b.okd = true ∧ z = xs.any fun z => z.eqv a := by
  unfold inF at h
  split at h
  · obtain ⟨hc, rfl⟩ := g_some h; rw [Bool.and_eq_true] at hc; exact ⟨_, .inl rfl, hc.1, hc.2, rfl⟩
  · obtain ⟨hc, rfl⟩ := g_some h; rw [Bool.and_eq_true] at hc; exact ⟨_, .inr rfl, hc.1, hc.2, rfl⟩
  · cases h
theorem cop_in (hu : X.A.units + 65 < cLine) : CopOk X C .isin .In :=
  ⟨_, (op_inD hu).or (Fk.op_inT hu), fun x y z v w L H st Q hz s rx ry q => by
    obtain ⟨fx, fy, hz, rx, ry, _⟩ := cmp_view hz s rx ry
    obtain ⟨xs, hb, h1, h2, rfl⟩ := in_cases hz
    have d1 := VF.dp (K := X.K) (L := L0) (okd_data h1) rx
    have d2 := VF.dp (K := X.K) (L := L0) (okd_data h2) ry
    rcases hb with rfl | rfl
    · have hd : FV.datas xs = true := by simpa [FV.data] using okd_data h2
      exact .inr ⟨fx.dat, FV.dats xs, d1, d2, okd_shaped h1, okd_shaped h2, by rw [dats_any hd (okd_data h1)]; exact q⟩
    · have hd : FV.datas xs = true := by simpa [FV.data] using okd_data h2
      exact .inl ⟨fx.dat, FV.dats xs, d1, d2, okd_shaped h1, okd_shaped h2, by rw [dats_any hd (okd_data h1)]; exact q⟩⟩
theorem cop_notin (hu : X.A.units + 65 < cLine) : CopOk X C .notin .NotIn :=
  ⟨_, op_notInD hu, fun x y z v w L H st Q hz s rx ry q => by
    obtain ⟨fx, fy, hz, rx, ry, _⟩ := cmp_view hz s rx ry
    simp only [cmpop, Option.map_eq_some_iff] at hz
    obtain ⟨z', hy, rfl⟩ := hz
    cases fy with
    | lst xs =>
      simp only [inL, inF] at hy
      obtain ⟨hc, rfl⟩ := g_some hy
      rw [Bool.and_eq_true] at hc
      have hd : FV.datas xs = true := by simpa [FV.data] using okd_data hc.2
      exact ⟨fx.dat, FV.dats xs, VF.dp (K := X.K) (L := L0) (okd_data hc.1) rx, VF.dp (K := X.K) (L := L0) (okd_data hc.2) ry, okd_shaped hc.1, okd_shaped hc.2, by rw [dats_any hd (okd_data hc.1)]; exact q⟩
    | _ => cases hy⟩
theorem dec_non {x : FV} {v : V} (r : VF C [] H x v) : decide (v = .non) = x.isNon := by
  cases x with
  | non => cases r; rfl
  | bl c => cases r; rfl
  | int c => cases r; rfl
  | str c => cases r; rfl
  | exc c => obtain ⟨a, rfl, _⟩ := r; rfl
  | scr c => obtain ⟨a, rfl, _⟩ := r; rfl
  | tup xs => obtain ⟨a, vs, rfl, _⟩ := r; rfl
  | lst xs => obtain ⟨a, vs, rfl, _⟩ := r; rfl
  | ins c xs => obtain ⟨a, d, vs, rfl, _⟩ := r; rfl
theorem is_cases {a b : FV} {z : Bool} (h : isF a b = some z) : (b = .non ∧ z = a.isNon) ∨ ∃ p q, a = .bl p ∧ b = .bl q ∧ z = decide (p = q) := by
  unfold isF at h
  split at h
  · cases h; exact .inl ⟨rfl, rfl⟩
  · cases h; exact .inr ⟨_, _, rfl, rfl, rfl⟩
  · cases h
theorem cop_is : CopOk X C .is .Is :=
  ⟨_, op_isN.or op_isBl, fun x y z v w L H st Q hz s rx ry q => by
    obtain ⟨fx, fy, hz, rx, ry, _⟩ := cmp_view hz s rx ry
    rcases is_cases hz with ⟨rfl, rfl⟩ | ⟨p, r, rfl, rfl, rfl⟩
    · exact .inl ⟨ry, by rw [dec_non rx]; exact q⟩
    · exact .inr ⟨p, r, rx, ry, q⟩⟩
theorem cop_isnot : CopOk X C .isnot .IsNot :=
  ⟨_, op_notN.or op_notBl, fun x y z v w L H st Q hz s rx ry q => by
    obtain ⟨fx, fy, hz, rx, ry, _⟩ := cmp_view hz s rx ry
    simp only [cmpop, Option.map_eq_some_iff] at hz
    obtain ⟨z', hy, rfl⟩ := hz
    rcases is_cases hy with ⟨rfl, rfl⟩ | ⟨p, r, rfl, rfl, rfl⟩
    · exact .inl ⟨ry, by rw [dec_non rx]; exact q⟩
    · exact .inr ⟨p, r, rx, ry, q⟩⟩
/-! ### operators on frozen values -/
theorem bop_int {o : BO} {op : Operator} {f : Int → Int → Int} (h : OpR X (binaryOp op) (rI0 fun i j => .int (f i j))) (hc : ∀ x y z, binop o x y = some z → ∃ i j, x = .int i ∧ y = .int j ∧ z = .int (f i j)) : BopOk X C o op :=
  ⟨_, h, fun x y z v w L H st Q hz s rx ry q => by
    obtain ⟨i, j, rfl, rfl, rfl⟩ := hc _ _ _ hz
    exact ⟨i, j, rx, ry, q _ H (Ext.refl L H) s rfl⟩⟩
theorem bop_intC {o : BO} {op : Operator} {c : Int → Int → Prop} {f : Int → Int → Int} (h : OpR X (binaryOp op) (rI c fun i j => .int (f i j))) (hc : ∀ x y z, binop o x y = some z → ∃ i j, x = .int i ∧ y = .int j ∧ z = .int (f i j) ∧ c i j) : BopOk X C o op :=
  ⟨_, h, fun x y z v w L H st Q hz s rx ry q => by
    obtain ⟨i, j, rfl, rfl, rfl, hcc⟩ := hc _ _ _ hz
    exact ⟨i, j, rx, ry, hcc, q _ H (Ext.refl L H) s rfl⟩⟩
theorem bop_sub : BopOk X C .sub .Sub := bop_int op_sub fun x y z h => by cases x <;> cases y <;> simp [binop] at h; exact ⟨_, _, rfl, rfl, h.symm⟩
theorem bop_fdiv : BopOk X C .fdiv .FloorDiv := bop_intC op_fdiv fun x y z h => by
  cases x <;> cases y <;> simp [binop] at h
  obtain ⟨hc, rfl⟩ := g_some h
  exact ⟨_, _, rfl, rfl, rfl, (by simpa using hc : _ ∧ _)⟩
theorem bop_mod : BopOk X C .mod .Mod := bop_intC op_mod fun x y z h => by
  cases x <;> cases y <;> simp [binop] at h
  obtain ⟨hc, rfl⟩ := g_some h
  exact ⟨_, _, rfl, rfl, rfl, of_decide_eq_true hc⟩
theorem cpow_ok {i j : Int} (h : cpow i j = true) : CPow i j := by
  unfold cpow at h
  have h := of_decide_eq_true h
  exact h
theorem bop_pow : BopOk X C .pow .Pow := bop_intC op_pow fun x y z h => by
  cases x <;> cases y <;> simp [binop] at h
  obtain ⟨hc, rfl⟩ := g_some h
  exact ⟨_, _, rfl, rfl, rfl, cpow_ok hc⟩
theorem bop_shl : BopOk X C .shl .LShift := bop_intC op_shl fun x y z h => by
  cases x <;> cases y <;> simp [binop] at h
  obtain ⟨hc, rfl⟩ := g_some h
  exact ⟨_, _, rfl, rfl, rfl, cpow_ok hc⟩
theorem bop_shr : BopOk X C .shr .RShift := bop_intC op_shr fun x y z h => by
  cases x <;> cases y <;> simp [binop] at h
  obtain ⟨hc, rfl⟩ := g_some h
  exact ⟨_, _, rfl, rfl, rfl, of_decide_eq_true hc⟩
theorem cmul_ok {i j : Int} (h : cmul i j = true) : CMul i j := by
  unfold cmul at h
  rw [Bool.or_eq_true] at h
  rcases h with h | h
  · exact .inl (of_decide_eq_true h)
  · exact .inr (of_decide_eq_true h)
theorem rep_eq {α : Type} (xs : List α) : ∀ n, rep xs n = (List.replicate n xs).flatten
  | 0 => rfl
  | n + 1 => by rw [List.replicate_succ, List.flatten_cons, rep, rep_eq xs n]
theorem VFs.rep {xs : List FV} {vs : List V} {Y : List Addr} (h : VFs C Y H xs vs) : ∀ n, VFs C Y H (MP.rep xs n) (MP.rep vs n)
  | 0 => rfl
  | n + 1 => h.append (VFs.rep h n)
theorem bop_add (hK : C.K = X.K) : BopOk X C .add .Add :=
  ⟨_, (op_add.or op_add_str).or Fk.op_catS, fun x y z v w L H st Q hz s rx ry q => by
    cases x with
    | int i =>
      cases y <;> simp [binop] at hz
      subst hz
      exact .inl (.inl ⟨_, _, rx, ry, q _ H (Ext.refl L H) s rfl⟩)
    | str a =>
      cases y <;> simp [binop] at hz
      rename_i b
      obtain ⟨hc, rfl⟩ := g_some hz
      have hc := of_decide_eq_true hc
      refine .inl (.inr ⟨_, _, rx, ry, ?_, ?_⟩)
      · simp only [Str.length, List.size_toArray]; exact line_le hc
      · refine q _ H (Ext.refl L H) s ?_
        show V.str (Str.append _ _) = V.str _
        simp [Str.append]
    | lst xs =>
      cases y <;> simp [binop] at hz
      rename_i ys
      obtain ⟨hc, rfl⟩ := g_some hz
      have hc := of_decide_eq_true hc
      obtain ⟨a, vs, rfl, na, ha, r1⟩ := rx
      obtain ⟨b, us, rfl, nb, hb, r2⟩ := ry
      refine .inr ⟨a, b, vs, us, rfl, rfl, SqL.of ha, SqL.of hb, by rw [r1.length, r2.length]; exact line_le hc, fun p hp => ?_⟩
      have sm := Fk.same_new (o := .lst (vs ++ us)) hp
      exact q _ _ (s.extS sm) (s.same sm) ⟨p, _, rfl, s.fresh hp, upd_same, VFs.ext (s.extS sm) (r1.append r2)⟩
    | scr xs =>
      cases y <;> simp [binop] at hz
      rename_i ys
      obtain ⟨hc, rfl⟩ := g_some hz
      have hc := of_decide_eq_true hc
      obtain ⟨a, rfl, ha⟩ := VF.scrSq rx
      rw [hK] at ha
      obtain ⟨b, us, rfl, nb, hb, r2⟩ := ry
      refine .inr ⟨a, b, _, us, rfl, rfl, ha, SqL.of hb, by rw [List.length_map, r2.length]; exact line_le hc, fun p hp => ?_⟩
      have sm := Fk.same_new (o := .lst (xs.map V.int ++ us)) hp
      exact q _ _ (s.extS sm) (s.same sm) ⟨p, _, rfl, s.fresh hp, upd_same, VFs.ext (s.extS sm) (VFs.ofInts.append r2)⟩
    | _ => cases y <;> simp [binop] at hz⟩
theorem bop_mul : BopOk X C .mul .Mult :=
  ⟨_, op_mul.or op_rep, fun x y z v w L H st Q hz s rx ry q => by
    cases x with
    | int i =>
      cases y <;> simp [binop] at hz
      obtain ⟨hc, rfl⟩ := g_some hz
      exact .inl ⟨_, _, rx, ry, cmul_ok hc, q _ H (Ext.refl L H) s rfl⟩
    | lst xs =>
      cases y <;> simp [binop] at hz
      rename_i k
      obtain ⟨hc, rfl⟩ := g_some hz
      have hc : 0 ≤ k ∧ k < 2 ^ 63 ∧ xs.length * k.toNat ≤ line := by simpa using hc
      obtain ⟨a, vs, rfl, na, ha, r1⟩ := rx
      refine .inr ⟨a, k, vs, rfl, ry, ha, by omega, hc.2.1, by rw [r1.length]; exact line_le hc.2.2, fun p hp => ?_⟩
      have sm := Fk.same_new (o := .lst (List.replicate k.toNat vs).flatten) hp
      refine q _ _ (s.extS sm) (s.same sm) ⟨p, _, rfl, s.fresh hp, upd_same, VFs.ext (s.extS sm) ?_⟩
      rw [← rep_eq]
      exact r1.rep _
    | _ => cases y <;> simp [binop] at hz⟩
end
end MP

/-! more built-in functions, isinstance -/
namespace MP
open PySem L2
section
variable {X : Cx} {C : CT} {σ : St} {sub : Nat → Nat → Option Bool} {Γ : Call} {a b c e i : E} {es : Es} {xa xb xc x xi : Expr} {xs : List Expr} {pos p p2 apos : Pos} {n : Str} {f k : Nat}
theorem lmax_spec : ∀ (ns : List Int) (a : Int), (lmax a ns = a ∨ lmax a ns ∈ ns) ∧ a ≤ lmax a ns ∧ ∀ y ∈ ns, y ≤ lmax a ns
  | [], a => ⟨.inl rfl, Int.le_refl _, fun _ h => by simp at h⟩
  | b :: bs, a => by
    obtain ⟨h1, h2, h3⟩ := lmax_spec bs (max a b)
    refine ⟨?_, by show a ≤ lmax (max a b) bs; omega, fun y hy => ?_⟩
    · show lmax (max a b) bs = a ∨ lmax (max a b) bs ∈ b :: bs
      rcases h1 with h1 | h1
      · rcases Int.le_total a b with h | h
        · rw [Int.max_eq_right h] at h1; exact .inr (by rw [Int.max_eq_right h, h1]; exact List.mem_cons_self)
        · rw [Int.max_eq_left h] at h1; exact .inl (by rw [Int.max_eq_left h]; exact h1)
      · exact .inr (List.mem_cons_of_mem _ h1)
    · show y ≤ lmax (max a b) bs
      rcases List.mem_cons.mp hy with rfl | hy
      · omega
      · exact h3 y hy
theorem lmin_spec : ∀ (ns : List Int) (a : Int), (lmin a ns = a ∨ lmin a ns ∈ ns) ∧ lmin a ns ≤ a ∧ ∀ y ∈ ns, lmin a ns ≤ y
  | [], a => ⟨.inl rfl, Int.le_refl _, fun _ h => by simp at h⟩
  | b :: bs, a => by
    obtain ⟨h1, h2, h3⟩ := lmin_spec bs (min a b)
    refine ⟨?_, by show lmin (min a b) bs ≤ a; omega, fun y hy => ?_⟩
    · show lmin (min a b) bs = a ∨ lmin (min a b) bs ∈ b :: bs
      rcases h1 with h1 | h1
      · rcases Int.le_total a b with h | h
        · rw [Int.min_eq_left h] at h1; exact .inl (by rw [Int.min_eq_left h]; exact h1)
        · rw [Int.min_eq_right h] at h1; exact .inr (by rw [Int.min_eq_right h, h1]; exact List.mem_cons_self)
      · exact .inr (List.mem_cons_of_mem _ h1)
    · show lmin (min a b) bs ≤ y
      rcases List.mem_cons.mp hy with rfl | hy
      · omega
      · exact h3 y hy
theorem pair_maxD (i j : Int) : True := trivial
theorem blt_max (hc : X.calm = true) (hu : X.A.units + 65 < cLine) : BltOk X C .max (.builtin "max") := by
  refine ⟨_, ((call_max2 hc).or (cr_max hc)).or (cr_maxT hc hu), fun st vs z ws L H Q hz s r q => ?_⟩
  have fin : ∀ m : Int, z = .int m → Q (.int m) H := fun m e => q _ H (Ext.refl L H) s (by rw [e]; rfl)
  have lst : ∀ {xs : List FV} {p : Addr} {us : List V}, bltF .max [.lst xs] = some z → SqL X.K H p us → VFs C L.all H xs us → rMax X.K [.ref p] H Q := fun {xs p us} hf hs rs => by
    simp only [bltF, Option.bind_eq_some_iff] at hf
    obtain ⟨ns, h1, h2⟩ := hf
    rw [allInts_some h1] at rs
    rw [rs.toNums] at hs
    cases ns with
    | nil => cases h2
    | cons n ns =>
      have e : z = .int (lmax n ns) := by cases h2; rfl
      refine ⟨p, n :: ns, rfl, hs, by simp, fun m h3 h4 => ?_⟩
      obtain ⟨s1, s2, s3⟩ := lmax_spec ns n
      have e2 : m = lmax n ns := by
        apply Int.le_antisymm
        · rcases List.mem_cons.mp h3 with rfl | h3
          · exact s2
          · exact s3 m h3
        · apply h4
          rcases s1 with s1 | s1
          · rw [s1]; exact List.mem_cons_self
          · exact List.mem_cons_of_mem _ s1
      rw [e2]
      exact fin _ e
  rcases blt_cases (X := X) hz s r with ⟨fs, hf, rf⟩ | ⟨xs, p, us, hf, rfl, hs, rs⟩ | ⟨n, kvs, p, ks, rfl, ho, rfl, hp, rk⟩
  · have hf0 := hf
    unfold bltF at hf
    split at hf <;> try (first | (cases hf; done) | (rename_i h; cases h; done))
    · rename_i i j _
      obtain ⟨v, w, rfl, h1, h2⟩ := rf.two
      have e : z = .int (max i j) := by cases hf; rfl
      refine .inl (.inl ⟨i, j, by rw [show v = V.int i from h1, show w = V.int j from h2], ?_⟩)
      have e2 : (if j > i then j else i) = max i j := by split <;> omega
      rw [e2]
      exact fin _ e
    · rename_i xs _
      obtain ⟨v, rfl, a, us, rfl, _, ha, rs⟩ := rf.one
      exact .inl (.inr (lst hf0 (SqL.of ha) rs))
    · rename_i i j _
      obtain ⟨v, rfl, a, us, rfl, _, ha, rs⟩ := rf.one
      obtain ⟨v, w, rfl, h1, h2⟩ := rs.two
      have e : z = .int (max i j) := by cases hf; rfl
      refine .inr ⟨a, i, j, rfl, ?_, fin _ e⟩
      rw [show v = V.int i from h1, show w = V.int j from h2] at ha
      exact SqT.of ha
  · exact .inl (.inr (lst hf hs rs))
  · simp only [bltS, ho] at hz
    cases hz
theorem blt_min (hc : X.calm = true) : BltOk X C .min (.builtin "min") := by
  refine ⟨_, (call_min2 hc).or (cr_min hc), fun st vs z ws L H Q hz s r q => ?_⟩
  have fin : ∀ m : Int, z = .int m → Q (.int m) H := fun m e => q _ H (Ext.refl L H) s (by rw [e]; rfl)
  have lst : ∀ {xs : List FV} {p : Addr} {us : List V}, bltF .min [.lst xs] = some z → SqL X.K H p us → VFs C L.all H xs us → rMin X.K [.ref p] H Q := fun {xs p us} hf hs rs => by
    simp only [bltF, Option.bind_eq_some_iff] at hf
    obtain ⟨ns, h1, h2⟩ := hf
    rw [allInts_some h1] at rs
    rw [rs.toNums] at hs
    cases ns with
    | nil => cases h2
    | cons n ns =>
      have e : z = .int (lmin n ns) := by cases h2; rfl
      refine ⟨p, n :: ns, rfl, hs, by simp, fun m h3 h4 => ?_⟩
      obtain ⟨s1, s2, s3⟩ := lmin_spec ns n
      have e2 : m = lmin n ns := by
        apply Int.le_antisymm
        · apply h4
          rcases s1 with s1 | s1
          · rw [s1]; exact List.mem_cons_self
          · exact List.mem_cons_of_mem _ s1
        · rcases List.mem_cons.mp h3 with rfl | h3
          · exact s2
          · exact s3 m h3
      rw [e2]
      exact fin _ e
  rcases blt_cases (X := X) hz s r with ⟨fs, hf, rf⟩ | ⟨xs, p, us, hf, rfl, hs, rs⟩ | ⟨n, kvs, p, ks, rfl, ho, rfl, hp, rk⟩
  · have hf0 := hf
    unfold bltF at hf
    split at hf <;> try (first | (cases hf; done) | (rename_i h; cases h; done))
    · rename_i i j _
      obtain ⟨v, w, rfl, h1, h2⟩ := rf.two
      have e : z = .int (min i j) := by cases hf; rfl
      refine .inl ⟨i, j, by rw [show v = V.int i from h1, show w = V.int j from h2], ?_⟩
      have e2 : (if j < i then j else i) = min i j := by split <;> omega
      rw [e2]
      exact fin _ e
    · rename_i xs _
      obtain ⟨v, rfl, a, us, rfl, _, ha, rs⟩ := rf.one
      exact .inr (lst hf0 (SqL.of ha) rs)
  · exact .inr (lst hf hs rs)
  · simp only [bltS, ho] at hz
    cases hz
theorem blt_all (hc : X.calm = true) : BltOk X C .all (.builtin "all") := by
  refine ⟨_, cr_all hc, fun st vs z ws L H Q hz s r q => ?_⟩
  have lst : ∀ {xs : List FV} {p : Addr} {us : List V}, bltF .all [.lst xs] = some z → SqL X.K H p us → VFs C L.all H xs us → rAll X.K [.ref p] H Q := fun {xs p us} hf hs rs => by
    simp only [bltF, Option.map_eq_some_iff] at hf
    obtain ⟨ns, h1, rfl⟩ := hf
    rw [allBls_some h1] at rs
    rw [rs.bls] at hs
    exact ⟨p, ns, rfl, hs, q _ H (Ext.refl L H) s rfl⟩
  rcases blt_cases (X := X) hz s r with ⟨fs, hf, rf⟩ | ⟨xs, p, us, hf, rfl, hs, rs⟩ | ⟨n, kvs, p, ks, rfl, ho, rfl, hp, rk⟩
  · have hf0 := hf
    unfold bltF at hf
    split at hf <;> try (first | (cases hf; done) | (rename_i h; cases h; done))
    · obtain ⟨v, rfl, a, us, rfl, _, ha, rs⟩ := rf.one
      exact lst hf0 (SqL.of ha) rs
  · exact lst hf hs rs
  · simp only [bltS, ho] at hz
    cases hz
theorem blt_int : BltOk X C .int (.type "int") := by
  refine ⟨_, call_int1, fun st vs z ws L H Q hz s r q => ?_⟩
  have fin : ∀ m : Int, z = .int m → Q (.int m) H := fun m e => q _ H (Ext.refl L H) s (by rw [e]; rfl)
  rcases blt_cases (X := X) hz s r with ⟨fs, hf, rf⟩ | ⟨xs, p, us, hf, rfl, hs, rs⟩ | ⟨n, kvs, p, ks, rfl, ho, rfl, hp, rk⟩
  · unfold bltF at hf
    split at hf <;> try (first | (cases hf; done) | (rename_i h; cases h; done))
    · rename_i j _
      obtain ⟨v, rfl, h⟩ := rf.one
      have e : z = .int j := by cases hf; rfl
      exact .inl ⟨j, by rw [show v = V.int j from h], fin _ e⟩
    · rename_i b _
      obtain ⟨v, rfl, h⟩ := rf.one
      have e : z = .int (b2i b) := by cases hf; rfl
      refine .inr ⟨b, by rw [show v = V.bl _ from h], ?_⟩
      have e2 : (if b = true then 1 else 0 : Int) = b2i b := by cases b <;> rfl
      rw [e2]
      exact fin _ e
  · simp [bltF] at hf
  · simp only [bltS, ho] at hz
    cases hz
theorem blt_tuple : BltOk X C .tuple (.type "tuple") := by
  refine ⟨_, call_tuple_of, fun st vs z ws L H Q hz s r q => ?_⟩
  have lst : ∀ {xs : List FV} {p : Addr} {us : List V}, bltF .tuple [.lst xs] = some z → SqL X.K H p us → VFs C L.all H xs us → ∃ p' ys, [V.ref p] = [.ref p'] ∧ ((SqL X.K H p' ys ∧ ∀ l, H l = none → Q (.ref l) (upd H l (.tup ys))) ∨ (SqT X.K H p' ys ∧ Q (.ref p') H)) := fun {xs p us} hf hs rs => by
    have e : z = .tup xs := by cases hf; rfl
    refine ⟨p, us, rfl, .inl ⟨hs, fun l hl => ?_⟩⟩
    have sm := Fk.same_new (o := .tup us) hl
    refine q _ _ (s.extS sm) (s.same sm) ?_
    rw [e]
    exact ⟨l, us, rfl, s.fresh hl, upd_same, rs.ext (s.extS sm)⟩
  rcases blt_cases (X := X) hz s r with ⟨fs, hf, rf⟩ | ⟨xs, p, us, hf, rfl, hs, rs⟩ | ⟨n, kvs, p, ks, rfl, ho, rfl, hp, rk⟩
  · have hf0 := hf
    unfold bltF at hf
    split at hf <;> try (first | (cases hf; done) | (rename_i h; cases h; done))
    · obtain ⟨v, rfl, a, us, rfl, _, ha, rs⟩ := rf.one
      exact lst hf0 (SqL.of ha) rs
  · exact lst hf hs rs
  · simp only [bltS, ho] at hz
    cases hz
theorem blt_list : BltOk X C .list (.type "list") := by
  refine ⟨_, call_list_of, fun st vs z ws L H Q hz s r q => ?_⟩
  have lst : ∀ {xs : List FV} {p : Addr} {us : List V}, bltF .list [.lst xs] = some z → SqL X.K H p us → VFs C L.all H xs us → ∃ p' ys, [V.ref p] = [.ref p'] ∧ (SqL X.K H p' ys ∨ SqT X.K H p' ys) ∧ ∀ l, H l = none → Q (.ref l) (upd H l (.lst ys)) := fun {xs p us} hf hs rs => by
    have e : z = .lst xs := by cases hf; rfl
    refine ⟨p, us, rfl, .inl hs, fun l hl => ?_⟩
    have sm := Fk.same_new (o := .lst us) hl
    refine q _ _ (s.extS sm) (s.same sm) ?_
    rw [e]
    exact ⟨l, us, rfl, s.fresh hl, upd_same, rs.ext (s.extS sm)⟩
  rcases blt_cases (X := X) hz s r with ⟨fs, hf, rf⟩ | ⟨xs, p, us, hf, rfl, hs, rs⟩ | ⟨n, kvs, p, ks, rfl, ho, rfl, hp, rk⟩
  · have hf0 := hf
    unfold bltF at hf
    split at hf <;> try (first | (cases hf; done) | (rename_i h; cases h; done))
    · obtain ⟨v, rfl, a, us, rfl, _, ha, rs⟩ := rf.one
      exact lst hf0 (SqL.of ha) rs
  · exact lst hf hs rs
  · simp only [bltS, ho] at hz
    cases hz
/-! ### isinstance -/
/-- what is asked of an exception's class, to be asked for its class -/
structure ExcK (K : PySem.W.Frag) (D : Addr) : Prop where
  hga : PySem.W.findIn K (.ref D) "__getattribute__" = some (some (.builtin "BaseException.__getattribute__"))
  hgt : PySem.W.findIn K (.ref D) "__getattr__" = some none
  hsub : PySem.W.subIn K (.ref D) (.type "BaseException") = some true
  hdct : PySem.W.hasDictIn K D = true
  ha : PySem.W.findIn K (.ref D) "__class__" = some (some (.builtin "object.__class__"))
  hn : PySem.W.specialIn K (.builtin "object.__class__") "__get__" = some (some (.builtin "getset_descriptor.__get__"))
  htk : PySem.W.takesIn K (.builtin "object.__class__") = some true
  hm : PySem.W.mroIn K D (.type "object") = some true
structure InsK (K : PySem.W.Frag) (D : Addr) : Prop where
  cl : Cls K D
  ha : PySem.W.findIn K (.ref D) "__class__" = some (some (.builtin "object.__class__"))
  hn : PySem.W.specialIn K (.builtin "object.__class__") "__get__" = some (some (.builtin "getset_descriptor.__get__"))
  htk : PySem.W.takesIn K (.builtin "object.__class__") = some true
  hm : PySem.W.mroIn K D (.type "object") = some true
def rIsE (K : PySem.W.Frag) : List V → Hp → VK → Prop := fun xs H Q => ∃ (a D : Addr) (c : V) (u : Value) (b : Bool), xs = [.ref a, c] ∧ ClsV c u ∧ H a = some (excO a (.ref D)) ∧ ExcK K D ∧ PySem.W.kitOne K (.ref D) u = some b ∧ Q (.bl b) H
theorem call_isiE : CallR X (.builtin "isinstance") (rIsE X.K) := by
  intro pins s σ H xs us Q I r h
  obtain ⟨a, D, c, u, b, rfl, k, ha, ek, e, q⟩ := h
  obtain ⟨u1, u2, rfl, r1, r2⟩ := vals2 r
  have e2 := k.eq r2
  subst e2
  have r1 : u1 = Value.ref a := r1
  subst r1
  obtain ⟨⟨oe, vs, he, hz, hd⟩, _⟩ := I.hok a _ ha
  have J : PySem.W.InstAt s.heap a oe D none := ⟨he, hz.1, by unfold PySem.W.notCls; rw [hd], by rw [hz.2]; exact True.intro⟩
  exact PySem.W.kia_one (PySem.W.handS_kitx_exc ek.hga ek.hgt ek.hsub ek.hdct ek.ha ek.hn ek.htk ek.hm) I.kIn J e (fun z => nomatch z) fun tk => ⟨.bl b, H, I.tok tk, rfl, q⟩
structure ClsF (K : PySem.W.Frag) (C : CT) (sub : Nat → Nat → Option Bool) : Prop where
  kit : ∀ c d b, sub c d = some b → PySem.W.kitOne K (.ref (C.ca c)) (.ref (C.ca d)) = some b
  ik : ∀ c d b, sub c d = some b → c < 10 → InsK K (C.ca c)
  ek : ∀ c d b, sub c d = some b → 10 ≤ c → ExcK K (C.ca c)
  ve : ∀ c d b, sub c d = some b → 10 ≤ c → PySem.W.kitOne K (.ref (C.ca c)) (.type "ValueError") = some true
/-- the class that is asked for: its value, the thing of the model -/
def tyOf (C : CT) : TY → V × Value
  | .int => (.ty "int", .type "int")
  | .bool => (.ty "bool", .type "bool")
  | .tuple => (.ty "tuple", .type "tuple")
  | .list => (.ty "list", .type "list")
  | .str => (.ty "str", .type "str")
  | .valueError => (.ty "ValueError", .type "ValueError")
  | .cls c => (.ref (C.ca c), .ref (C.ca c))
theorem tyOf_cls (C : CT) (t : TY) : ClsV (tyOf C t).1 (tyOf C t).2 := by cases t <;> first | exact .ty _ | exact .own _
def tname : FV → String
  | .non => "NoneType"
  | .bl _ => "bool"
  | .int _ => "int"
  | .str _ => "str"
  | .tup _ => "tuple"
  | .lst _ => "list"
  | _ => ""
theorem kb_tab : ∀ n ∈ ["NoneType", "bool", "int", "str", "tuple", "list", "dict"], ∀ m ∈ ["int", "bool", "tuple", "list", "str"], kitB n m = some (decide (n = m) || (decide (n = "bool") && decide (m = "int"))) := by decide +kernel
theorem isi_sound {K : PySem.W.Frag} {L : Lay} {H : Hp} {st : Store} {pv : PV} {t : TY} {z : Bool} {v : V} {Q : VK} (cf : ClsF K C sub) (hz : isiS sub st pv t = some z) (s : StR C L st H) (r : VP C L H pv v) (q : Q (.bl z) H) :
    rIsi K [v, (tyOf C t).1] H Q ∨ rIsE K [v, (tyOf C t).1] H Q := by
  have base : ∀ {n m : String} {b : Bool}, TyX K H v (.type n) → n ∈ ["NoneType", "bool", "int", "str", "tuple", "list", "dict"] → m ∈ ["int", "bool", "tuple", "list", "str"] → (tyOf C t) = (.ty m, .type m) → z = (decide (n = m) || (decide (n = "bool") && decide (m = "int"))) → rIsi K [v, (tyOf C t).1] H Q := fun {n m b} hv hn hm ht e => by
    rw [ht]
    exact ⟨v, .ty m, .type n, .type m, z, rfl, .ty m, hv, by rw [e]; exact kit_ty (kb_tab n hn m hm), q⟩
  cases pv with
  | f f =>
    simp only [isiS] at hz
    cases f with
    | non =>
      have hv : TyX K H v (.type "NoneType") := by cases r; exact .base .non
      cases t <;> simp [isiF] at hz <;> exact .inl (base (b := z) hv (by decide) (by decide) rfl (by subst hz; decide))
    | bl c =>
      have hv : TyX K H v (.type "bool") := by cases r; exact .base (.bl _)
      cases t <;> simp [isiF] at hz <;> exact .inl (base (b := z) hv (by decide) (by decide) rfl (by subst hz; decide))
    | int c =>
      have hv : TyX K H v (.type "int") := by cases r; exact .base (.int _)
      cases t <;> simp [isiF] at hz <;> exact .inl (base (b := z) hv (by decide) (by decide) rfl (by subst hz; decide))
    | str c =>
      have hv : TyX K H v (.type "str") := by cases r; exact .base (.str _)
      cases t <;> simp [isiF] at hz <;> exact .inl (base (b := z) hv (by decide) (by decide) rfl (by subst hz; decide))
    | tup xs =>
      have hv : TyX K H v (.type "tuple") := by obtain ⟨a, vs, rfl, _, h, _⟩ := r; exact .base (.tup h)
      cases t <;> simp [isiF] at hz <;> exact .inl (base (b := z) hv (by decide) (by decide) rfl (by subst hz; decide))
    | lst xs =>
      have hv : TyX K H v (.type "list") := by obtain ⟨a, vs, rfl, _, h, _⟩ := r; exact .base (.lst h)
      cases t <;> simp [isiF] at hz <;> exact .inl (base (b := z) hv (by decide) (by decide) rfl (by subst hz; decide))
    | scr xs => cases t <;> simp [isiF] at hz
    | ins c fs =>
      cases t <;> simp [isiF] at hz
      rename_i d
      obtain ⟨a, dx, vs, rfl, _, h, _⟩ := r
      have ik := cf.ik c d z hz.2 hz.1
      exact .inl ⟨.ref a, .ref (C.ca d), .ref (C.ca c), .ref (C.ca d), z, rfl, .own _, .base (.ins h ik.cl ik.ha ik.hn ik.htk ik.hm), cf.kit c d z hz.2, q⟩
    | exc c =>
      obtain ⟨a, rfl, _, h⟩ := r
      cases t <;> simp [isiF] at hz
      · rename_i d
        exact .inr ⟨a, C.ca c, .ref (C.ca d), .ref (C.ca d), z, rfl, .own _, h, cf.ek c d z hz.2 hz.1, cf.kit c d z hz.2, q⟩
      · obtain ⟨⟨h1, h2⟩, h3⟩ := hz
        obtain ⟨b, hb⟩ := Option.isSome_iff_exists.mp h2
        subst h3
        exact .inr ⟨a, C.ca c, .ty "ValueError", .type "ValueError", true, rfl, .ty _, h, cf.ek c c b hb h1, cf.ve c c b hb h1, q⟩
  | r n =>
    obtain ⟨p, hp, rfl⟩ := r
    simp only [isiS] at hz
    cases ho : st[n]? with
    | none => rw [ho] at hz; cases t <;> cases hz
    | some o =>
      rw [ho] at hz
      obtain ⟨p', hp', hob⟩ := s.obj n _ ho
      rw [hp] at hp'
      cases hp'
      cases o with
      | lst xs =>
        obtain ⟨vs, h, _⟩ := hob
        have hv : TyX K H (V.ref p) (.type "list") := .base (.lst h)
        cases t <;> simp at hz <;> exact .inl (base (b := z) hv (by decide) (by decide) rfl (by subst hz; decide))
      | dic xs =>
        obtain ⟨vs, h, _⟩ := hob
        have hv : TyX K H (V.ref p) (.type "dict") := .base (.dK h)
        cases t <;> simp at hz <;> exact .inl (base (b := z) hv (by decide) (by decide) rfl (by subst hz; decide))
      | dit xs => cases t <;> simp at hz
      | ins c xs => cases t <;> simp at hz
/-- isinstance(x, T) -/
theorem mv_isi {t : TY} {xt : Expr} (cf : ClsF X.K C sub) (hg : Gl X "isinstance") (hm : X.mg "isinstance" = none) (ha : ME X C sub Γ a xa) (ht : PE X xt (tC (tyOf C t).1))
    (h1 : starEach [xa, xt] X.env = (false, eval xa X.env) :: starEach [xt] X.env) (h2 : starEach [xt] X.env = (false, eval xt X.env) :: starEach [] X.env) (hpl : (backTo pos (starEach [xt] X.env)).any (·.1) = false) :
    ME X C sub Γ (.isi a t) (.Call (.Name "isinstance" p) [xa, xt] [] pos) := by
  refine PE_imp (pe_callB (CallR.or call_isi call_isiE) hg hm (by decide +kernel) (pa_cons ha (pa_cons ht pa_nil h2) h1) (by decide) (by decide) h1 hpl) fun σ H Q q => ?_
  obtain ⟨env, st, L, hs, he, h⟩ := q
  simp only [evE] at h
  refine ⟨env, st, L, hs, he, h.bind fun pv st1 L1 v H1 _ e1 s1 r1 h1 => ?_⟩
  obtain ⟨z, hz, h1⟩ := of_of h1
  rw [Option.map_eq_some_iff] at hz
  obtain ⟨z', hz, rfl⟩ := hz
  exact isi_sound cf hz s1 r1 (h1.ok s1 rfl)
/-! ### methods of lists and texts -/
theorem mv_count {y : Expr} (ha : ME X C sub Γ a xa) (hb : ME X C sub Γ b y) (hbase : attributeBase xa "count" X.env (eval xa X.env) = eval xa X.env)
    (hfew : ((backTo pos (starEach (y :: []) X.env)).all (fun x => !x.1) && (backToKw pos (keywordEach [] X.env)).all (fun x => x.1.isSome)
      && decide ((y :: []).length + ([] : List Keyword).length + (if ([] : List Keyword).isEmpty then 0 else 1) < 30)) = true)
    (hline : (apos.endLine == pos.line) = true) (hs : starEach (y :: []) X.env = (false, eval y X.env) :: starEach [] X.env) (hplain : (backTo pos (starEach [] X.env)).any (·.1) = false) :
    ME X C sub Γ (.bm .count a (.cons b .nil)) (.Call (.Attribute xa "count" apos) [y] [] pos) := by
  refine PE_imp (pe_bm PySem.F.plainAttrs_list PySem.F.slot_list_count PySem.F.type_list_count mt_lcount ha (pa_cons hb pa_nil hs) hbase hfew hline hs hplain) fun σ H Q q => ?_
  obtain ⟨env, st, L, hs, he, h⟩ := q
  simp only [evE, R.fr, evEs] at h
  refine ⟨env, st, L, hs, he, h.bind fun pv st1 L1 v H1 _ e1 s1 r1 h1 => ?_⟩
  obtain ⟨fa, rfl, hb1⟩ := of_fr h1
  clear h1
  split at hb1
  · rename_i ht
    cases fa with
    | lst xs =>
      obtain ⟨l, ws, rfl, nl, hl, rs⟩ := r1
      refine ⟨Or.inl ⟨rfl, ws, SqL.of hl⟩, ?_⟩
      refine ⟨env, st1, L1, s1, he.ext e1, ?_⟩
      rw [bind_bind] at hb1
      refine hb1.bind fun pb st2 L2 w H2 _ e2 s2 r2 h2 => ?_
      simp only [R.bind] at h2
      obtain ⟨z, hz, h3⟩ := of_of h2
      rw [Option.bind_eq_some_iff] at hz
      obtain ⟨fs, hfs, hz⟩ := hz
      rw [Option.map_eq_some_iff] at hz
      obtain ⟨z', hz, rfl⟩ := hz
      cases pb with
      | r n => simp [allF] at hfs
      | f fb =>
        simp only [allF, Option.map_some, Option.some.injEq] at hfs
        subst hfs
        cases fb with
        | int k =>
          simp only [bmF, Option.map_eq_some_iff] at hz
          obtain ⟨ns, hns, rfl⟩ := hz
          have hx := allInts_some hns
          subst hx
          have hl2 := (e2.old l _ hl nl).2
          rw [rs.toNums] at hl2
          have r2 : w = V.int k := r2
          subst r2
          exact ⟨l, ns, k, rfl, rfl, SqL.of hl2, h3.ok s2 rfl⟩
        | _ => simp [bmF] at hz
    | _ => cases ht
  · exact hb1.elim
theorem joinS_eq (s : List Nat) : ∀ ys : List (List Nat), (Txt.join ⟨s.toArray⟩ (ys.map fun y => (⟨y.toArray⟩ : Str))).cps.toList = joinS s ys
  | [] => by rw [TL.join_eq]; rfl
  | [x] => by rw [TL.join_eq]; simp [joinS, Str.join]
  | x :: y :: r => by
    have ih := joinS_eq s (y :: r)
    rw [TL.join_eq] at ih ⊢
    simp only [List.map_cons, Str.join] at ih ⊢
    show (Str.append (Str.append _ _) _).cps.toList = x ++ s ++ joinS s (y :: r)
    simp only [Str.append, Array.toList_append]
    rw [ih]
theorem mv_join {y : Expr} (ha : ME X C sub Γ a xa) (hb : ME X C sub Γ b y) (hbase : attributeBase xa "join" X.env (eval xa X.env) = eval xa X.env)
    (hfew : ((backTo pos (starEach (y :: []) X.env)).all (fun x => !x.1) && (backToKw pos (keywordEach [] X.env)).all (fun x => x.1.isSome)
      && decide ((y :: []).length + ([] : List Keyword).length + (if ([] : List Keyword).isEmpty then 0 else 1) < 30)) = true)
    (hline : (apos.endLine == pos.line) = true) (hs : starEach (y :: []) X.env = (false, eval y X.env) :: starEach [] X.env) (hplain : (backTo pos (starEach [] X.env)).any (·.1) = false) :
    ME X C sub Γ (.bm .join a (.cons b .nil)) (.Call (.Attribute xa "join" apos) [y] [] pos) := by
  refine PE_imp (pe_bm PySem.F.plainAttrs_str PySem.F.slot_str_join PySem.F.type_str_join mt_join ha (pa_cons hb pa_nil hs) hbase hfew hline hs hplain) fun σ H Q q => ?_
  obtain ⟨env, st, L, hs, he, h⟩ := q
  simp only [evE, R.fr, evEs] at h
  refine ⟨env, st, L, hs, he, h.bind fun pv st1 L1 v H1 _ e1 s1 r1 h1 => ?_⟩
  obtain ⟨fa, rfl, hb1⟩ := of_fr h1
  clear h1
  split at hb1
  · rename_i ht
    cases fa with
    | str sp =>
      have r1 : v = V.str ⟨sp.toArray⟩ := r1
      subst r1
      refine ⟨rfl, ?_⟩
      refine ⟨env, st1, L1, s1, he.ext e1, ?_⟩
      rw [bind_bind] at hb1
      refine hb1.bind fun pb st2 L2 w H2 _ e2 s2 r2 h2 => ?_
      simp only [R.bind] at h2
      obtain ⟨z, hz, h3⟩ := of_of h2
      rw [Option.bind_eq_some_iff] at hz
      obtain ⟨fs, hfs, hz⟩ := hz
      rw [Option.map_eq_some_iff] at hz
      obtain ⟨z', hz, rfl⟩ := hz
      cases pb with
      | r n => simp [allF] at hfs
      | f fb =>
        simp only [allF, Option.map_some, Option.some.injEq] at hfs
        subst hfs
        cases fb with
        | lst xs =>
          simp only [bmF, Option.bind_eq_some_iff] at hz
          obtain ⟨ss, hss, hz⟩ := hz
          obtain ⟨hc, rfl⟩ := g_some hz
          have hc := of_decide_eq_true hc
          obtain ⟨l, ws, rfl, nl, hl, rs⟩ := r2
          have hx := allStrs_some hss
          subst hx
          rw [rs.strs] at hl
          refine ⟨⟨sp.toArray⟩, l, ss.map fun s => ⟨s.toArray⟩, rfl, rfl, .inl (SqL.of hl), ?_, h3.ok s2 ?_⟩
          · have e : ((ss.map fun s => (⟨s.toArray⟩ : Str)).map (·.length)) = ss.map List.length := by
              rw [List.map_map]
              exact List.map_congr_left fun s _ => by simp [Str.length]
            rw [e, List.length_map]
            have e2 : (⟨sp.toArray⟩ : Str).length = sp.length := by simp [Str.length]
            rw [e2]
            exact Nat.le_trans hc (by decide)
          · show V.str _ = V.str _
            rw [← joinS_eq]
        | _ => simp [bmF] at hz
    | _ => cases ht
  · exact hb1.elim
end
end MP

/-! what is walked; targets; comprehensions -/
namespace MP
open PySem L2
/-- what stood stays as it was, and is not set aside -/
def Old (L : Lay) (H : Hp) (L' : Lay) (H' : Hp) : Prop := ∀ a o, H a = some o → a ∉ L.all → a ∉ L'.all ∧ H' a = some o
theorem Old.trans {L L1 L2 : Lay} {H H1 H2 : Hp} (a : Old L H L1 H1) (b : Old L1 H1 L2 H2) : Old L H L2 H2 := fun p o h n => b p o (a p o h n).2 (a p o h n).1
theorem Ext.toOld {L L' : Lay} {H H' : Hp} (e : Ext L H L' H') : Old L H L' H' := e.old
def Live (L : Lay) (H : Hp) : Prop := ∀ a ∈ L.all, H a ≠ none
theorem StR.live {C : CT} {L : Lay} {st : Store} {H : Hp} (s : StR C L st H) : Live L H := fun a ha h => s.fresh h ha
/-- J walks xs -/
def ItM (C : CT) (J : It) (xs : List FV) (L1 : Lay) (H1 : Hp) : Prop := ∃ (Gd : Hp → Prop) (Y : Nat → Hp → V → Hp → Prop), Walk J xs.length Gd Y ∧ (∀ L' H', Old L1 H1 L' H' → Gd H') ∧
  ∀ i L' H' x H2, i < xs.length → Old L1 H1 L' H' → Live L' H' → Y i H' x H2 → Same H' H2 ∧ (∀ a ∈ L'.all, H2 a = H' a) ∧ ∃ f, xs[i]? = some f ∧ VF C L'.all H2 f x
section
variable {X : Cx} {C : CT} {σ : St} {sub : Nat → Nat → Option Bool} {Γ : Call} {a b c e : E} {xa xb xc x xi tg iter elt : Expr} {pos p p2 tpos : Pos} {n : Str}
theorem PI.or {wi wi' : TI} (h : PI X tg iter wi) (h' : PI X tg iter wi') : PI X tg iter (fun σ H R => wi σ H R ∨ wi' σ H R) := by
  refine ⟨fun pins s σ H R I q => ?_⟩
  rcases q with q | q
  · exact h.run pins s σ H R I q
  · exact h'.run pins s σ H R I q
/-- an iterable of the machine -/
def MI (X : Cx) (C : CT) (sub : Nat → Nat → Option Bool) (Γ : Call) (it : IT) (tg iter : Expr) : Prop := ∃ wi, PI X tg iter wi ∧ ∀ (σ : St) (H : Hp) (Rk : It → Hp → Prop) (env : Env) (st : Store) (L : Lay), StR C L st H → EnvR C L env σ H →
  Ans X C σ L H (fun L' H' xs J => ItM C J xs L' H') (evIT sub Γ it env st) Rk → wi σ H Rk
theorem at_old {L1 L' : Lay} {H1 H' : Hp} {xs : List FV} {vs : List V} {i : Nat} {v : V} (r : VFs C L1.all H1 xs vs) (o : Old L1 H1 L' H') (e : vs[i]? = some v) : ∃ f, xs[i]? = some f ∧ VF C L'.all H' f v := by
  obtain ⟨f, ef, rf⟩ := r.get' e
  exact ⟨f, ef, VF.at (X := L1.all) o rf⟩
theorem itm_list {K : PySem.W.Frag} {L1 : Lay} {H1 : Hp} {xs : List FV} {l : Addr} {vs : List V} (n : l ∉ L1.all) (h : H1 l = some (.lst vs)) (r : VFs C L1.all H1 xs vs) : ItM C (Itl K l) xs L1 H1 := by
  refine ⟨fun H => SqL K H l vs, YAt vs, by rw [← r.length]; exact walk_list, fun L' H' o => SqL.of (o _ _ h n).2, fun i L' H' x H2 hi o _ y => ?_⟩
  obtain ⟨rfl, e⟩ := y
  exact ⟨Same.refl _, fun _ _ => rfl, at_old r o e⟩
theorem scr_old {L1 L' : Lay} {H1 H' : Hp} {ns : List Int} {v : V} (h : VF C L1.all H1 (.scr ns) v) (o : Old L1 H1 L' H') : VF C L'.all H' (.scr ns) v := VF.at (X := L1.all) o h
theorem itm_scr {L1 : Lay} {H1 : Hp} {ns : List Int} {l : Addr} (h : VF C L1.all H1 (.scr ns) (.ref l)) : ItM C (Itl C.K l) (nums ns) L1 H1 := by
  refine ⟨fun H => SqL C.K H l (ns.map V.int), YAt (ns.map V.int), by simpa [nums] using walk_list (K := C.K) (a := l) (xs := ns.map V.int), fun L' H' o => ?_, fun i L' H' x H2 hi o _ y => ?_⟩
  · obtain ⟨a, e, q⟩ := (scr_old h o).scrSq
    cases e
    exact q
  obtain ⟨rfl, e⟩ := y
  exact ⟨Same.refl _, fun _ _ => rfl, at_old (VFs.ofInts (X := L1.all) (H := H1)) o e⟩
theorem itm_tup {K : PySem.W.Frag} {L1 : Lay} {H1 : Hp} {xs : List FV} {l : Addr} {vs : List V} (n : l ∉ L1.all) (h : H1 l = some (.tup vs)) (r : VFs C L1.all H1 xs vs) : ItM C (Itt K l) xs L1 H1 := by
  refine ⟨fun H => SqT K H l vs, YAt vs, by rw [← r.length]; exact walk_tup, fun L' H' o => SqT.of (o _ _ h n).2, fun i L' H' x H2 hi o _ y => ?_⟩
  obtain ⟨rfl, e⟩ := y
  exact ⟨Same.refl _, fun _ _ => rfl, at_old r o e⟩
theorem itm_str {L1 : Lay} {H1 : Hp} {s : List Nat} : ItM C (Its ⟨s.toArray⟩) (s.map fun c => .str [c]) L1 H1 := by
  refine ⟨fun _ => True, _, by simpa using walk_str (z := ⟨s.toArray⟩), fun _ _ _ => trivial, fun i L' H' x H2 hi o _ y => ?_⟩
  obtain ⟨rfl, c, e, rfl⟩ := y
  exact ⟨Same.refl _, fun _ _ => rfl, .str [c], by rw [List.getElem?_map, show s[i]? = some c from by simpa using e]; rfl, rfl⟩
theorem mi_seq (hK : C.K = X.K) (ha : ME X C sub Γ a iter) : MI X C sub Γ (.seq a) tg iter := by
  refine ⟨_, PI.or (pi_list ha) (PI.or (pi_tup ha) (pi_str ha)), fun σ H Rk env st L hs he h => ?_⟩
  simp only [evIT, R.frI] at h
  cases hev : evE sub Γ a env st with
  | bad => rw [hev] at h; exact h.elim
  | exc k st' =>
    rw [hev] at h
    exact .inl ⟨env, st, L, hs, he, by rw [hev]; exact h⟩
  | ok pv st1 =>
    rw [hev] at h
    cases pv with
    | r n => exact h.elim
    | f f =>
      obtain ⟨xs, hx, h1⟩ := of_of h
      cases f with
      | tup ys =>
        cases hx
        refine .inr (.inl ⟨env, st, L, hs, he, ?_⟩)
        rw [hev]
        rintro L1 v H1 e1 s1 ⟨p, vs, rfl, np, hp, rs⟩
        exact ⟨p, rfl, ⟨vs, SqT.of hp⟩, h1 L1 _ H1 e1 s1 (itm_tup np hp rs)⟩
      | lst ys =>
        cases hx
        refine .inl ⟨env, st, L, hs, he, ?_⟩
        rw [hev]
        rintro L1 v H1 e1 s1 ⟨p, vs, rfl, np, hp, rs⟩
        exact ⟨p, rfl, ⟨vs, SqL.of hp⟩, h1 L1 _ H1 e1 s1 (itm_list np hp rs)⟩
      | scr ys =>
        cases hx
        refine .inl ⟨env, st, L, hs, he, ?_⟩
        rw [hev]
        rintro L1 v H1 e1 s1 r
        obtain ⟨p, rfl, hp⟩ := VF.scrSq r
        have it := itm_scr r
        rw [hK] at hp it
        exact ⟨p, rfl, ⟨_, hp⟩, h1 L1 _ H1 e1 s1 it⟩
      | str ys =>
        cases hx
        refine .inr (.inr ⟨env, st, L, hs, he, ?_⟩)
        rw [hev]
        rintro L1 v H1 e1 s1 r
        exact ⟨_, r, h1 L1 _ H1 e1 s1 itm_str⟩
      | _ => cases hx
theorem rangeL_get : ∀ (n : Nat) (a c : Int) (i : Nat), i < n → (rangeL a c n)[i]? = some (.int (a + (i : Nat) * c))
  | 0, _, _, _, h => absurd h (Nat.not_lt_zero _)
  | n + 1, a, c, 0, _ => by simp [rangeL]
  | n + 1, a, c, i + 1, h => by
    have ih := rangeL_get n (a + c) c i (by omega)
    show (rangeL (a + c) c n)[i]? = _
    rw [ih]
    congr 2
    have e : ((i + 1 : Nat) : Int) * c = (i : Int) * c + c := by rw [Int.natCast_add, Int.add_mul]; simp
    rw [e]; omega
theorem rangeL_length : ∀ (n : Nat) (a c : Int), (rangeL a c n).length = n
  | 0, _, _ => rfl
  | n + 1, a, c => by simp [rangeL, rangeL_length n]
theorem itm_range {L1 : Lay} {H1 : Hp} {n : Nat} : ItM C (Itr 0 n) (rangeL 0 1 n) L1 H1 := by
  refine ⟨fun _ => True, YFn fun i => .int (0 + i), by rw [rangeL_length]; exact walk_range, fun _ _ _ => trivial, fun i L' H' x H2 hi o _ y => ?_⟩
  obtain ⟨rfl, rfl⟩ := y
  rw [rangeL_length] at hi
  exact ⟨Same.refl _, fun _ _ => rfl, _, rangeL_get n 0 1 i hi, by show V.int _ = V.int _; rw [Int.mul_one]⟩
theorem itm_rangeC {L1 : Lay} {H1 : Hp} {n : Nat} {lo k : Int} : ItM C (Itc lo k n) (rangeL lo k n) L1 H1 := by
  refine ⟨fun _ => True, YFn fun i => .int (lo + (i : Nat) * k), by rw [rangeL_length]; exact walk_rangeC, fun _ _ _ => trivial, fun i L' H' x H2 hi o _ y => ?_⟩
  obtain ⟨rfl, rfl⟩ := y
  rw [rangeL_length] at hi
  exact ⟨Same.refl _, fun _ _ => rfl, _, rangeL_get n lo k i hi, rfl⟩
theorem mi_range (ha : ME X C sub Γ a xa) (hm : X.mg "range" = none) (hg : Gl X "range") (hs : starEach [xa] X.env = [(false, eval xa X.env)]) (hs2 : starEach (xa :: []) X.env = (false, eval xa X.env) :: starEach [] X.env) :
    MI X C sub Γ (.range a) tg (.Call (.Name "range" p) [xa] [] pos) := by
  refine ⟨_, pi_range1 hg hm (pa_cons ha pa_nil hs2) hs, fun σ H Rk env st L hs he h => ?_⟩
  simp only [evIT, R.frI] at h
  refine ⟨env, st, L, hs, he, h.bind fun pv st1 L1 v H1 _ e1 s1 r1 h1 => ?_⟩
  cases pv with
  | r n => exact h1.elim
  | f f =>
    obtain ⟨xs, hx, h2⟩ := of_of h1
    clear h1
    rw [Option.bind_eq_some_iff] at hx
    obtain ⟨n, hn, hx⟩ := hx
    obtain ⟨hc, rfl⟩ := g_some hx
    have hc := of_decide_eq_true hc
    cases f with
    | int m =>
      cases hn
      exact ⟨n, by rw [show v = V.int n from r1], hc.1, hc.2, h2 L1 _ H1 (Ext.refl _ _) s1 itm_range⟩
    | _ => cases hn
theorem enumL_get : ∀ (xs : List FV) (k i : Nat), (enumL k xs)[i]? = xs[i]?.map fun x => .tup [.int ((k + i : Nat) : Int), x]
  | [], _, _ => by simp [enumL]
  | x :: xs, k, 0 => by simp [enumL]
  | x :: xs, k, i + 1 => by
    have ih := enumL_get xs (k + 1) i
    show (enumL (k + 1) xs)[i]? = _
    rw [ih]
    simp
    congr 1
    funext y
    congr 3
    omega
theorem enumL_length : ∀ (xs : List FV) (k : Nat), (enumL k xs).length = xs.length
  | [], _ => rfl
  | x :: xs, k => by simp [enumL, enumL_length xs]
theorem zipL_get : ∀ (xs ys : List FV) (i : Nat) (x y : FV), xs[i]? = some x → ys[i]? = some y → (zipL xs ys)[i]? = some (.tup [x, y])
  | [], _, _, _, _, h, _ => by simp at h
  | _ :: _, [], _, _, _, _, h => by simp at h
  | a :: xs, b :: ys, 0, _, _, h, k => by simp at h k; subst h k; simp [zipL]
  | a :: xs, b :: ys, i + 1, x, y, h, k => by
    show (zipL xs ys)[i]? = _
    exact zipL_get xs ys i x y (by simpa using h) (by simpa using k)
theorem zipL_length : ∀ (xs ys : List FV), (zipL xs ys).length = min xs.length ys.length
  | [], _ => by simp [zipL]
  | _ :: _, [] => by simp [zipL]
  | a :: xs, b :: ys => by simp [zipL, zipL_length xs ys]
theorem new_live {L' : Lay} {H' : Hp} {T : Addr} {o : HO} (l : Live L' H') (hT : H' T = none) : T ∉ L'.all ∧ (∀ a ∈ L'.all, upd H' T o a = H' a) ∧ ∀ a u, H' a = some u → a ∉ L'.all → a ∉ L'.all ∧ upd H' T o a = some u :=
  ⟨fun z => l T z hT, fun a ha => upd_ne (by rintro rfl; exact l _ ha hT), fun a u h n => ⟨n, by rw [upd_ne (ne_of_none h hT)]; exact h⟩⟩
theorem itm_enum {K : PySem.W.Frag} {L1 : Lay} {H1 : Hp} {xs : List FV} {l : Addr} {vs : List V} (h : ∀ L' H', Old L1 H1 L' H' → SqL K H' l vs) (r : VFs C L1.all H1 xs vs) : ItM C (Ite K l) (enumL 0 xs) L1 H1 := by
  refine ⟨fun H => SqL K H l vs, _, by rw [enumL_length, ← r.length]; exact walk_enum, h, fun i L' H' x H2 hi o lv y => ?_⟩
  obtain ⟨T, a, b, rfl, hT, rfl, e1, e2⟩ := y
  cases e1
  obtain ⟨f, ef, rf⟩ := at_old r o e2
  obtain ⟨n1, n2, n3⟩ := new_live (o := .tup [V.int (i : Nat), b]) lv hT
  exact ⟨Fk.same_new hT, n2, .tup [.int ((0 + i : Nat) : Int), f], by rw [enumL_get, ef]; rfl, T, _, rfl, n1, upd_same, .int (i : Nat), [b], rfl, by show V.int _ = V.int _; rw [Nat.zero_add], b, [], rfl, VF.at n3 rf, rfl⟩
theorem itm_zip {K : PySem.W.Frag} {L1 : Lay} {H1 : Hp} {xs ys : List FV} {l m : Addr} {vs ws : List V} (n : l ∉ L1.all) (h : H1 l = some (.lst vs)) (r : VFs C L1.all H1 xs vs) (n' : m ∉ L1.all) (h' : H1 m = some (.lst ws)) (r' : VFs C L1.all H1 ys ws) : ItM C (Itz K l m) (zipL xs ys) L1 H1 := by
  refine ⟨fun H => SqL K H l vs ∧ SqL K H m ws, _, walk_zip (by rw [zipL_length, r.length, r'.length]), fun L' H' o => ⟨SqL.of (o _ _ h n).2, SqL.of (o _ _ h' n').2⟩, fun i L' H' x H2 hi o lv y => ?_⟩
  obtain ⟨T, a, b, rfl, hT, rfl, e1, e2⟩ := y
  obtain ⟨f, ef, rf⟩ := at_old r o e1
  obtain ⟨g, eg, rg⟩ := at_old r' o e2
  obtain ⟨n1, n2, n3⟩ := new_live (o := .tup [a, b]) lv hT
  exact ⟨Fk.same_new hT, n2, _, zipL_get xs ys i f g ef eg, T, _, rfl, n1, upd_same, a, [b], rfl, VF.at n3 rf, b, [], rfl, VF.at n3 rg, rfl⟩
theorem mi_enum {elts : List Expr} {kk : Nat} (hK : C.K = X.K) (ha : ME X C sub Γ a xa) (hm : X.mg "enumerate" = none) (hg : Gl X "enumerate") (hs : starEach [xa] X.env = [(false, eval xa X.env)]) (hs2 : starEach (xa :: []) X.env = (false, eval xa X.env) :: starEach [] X.env) :
    MI X C sub Γ (.enum a) (.Tuple elts kk tpos) (.Call (.Name "enumerate" p) [xa] [] pos) := by
  refine ⟨_, pi_enum hg hm (pa_cons ha pa_nil hs2) hs, fun σ H Rk env st L hs he h => ?_⟩
  simp only [evIT, R.frI] at h
  refine ⟨env, st, L, hs, he, h.bind fun pv st1 L1 v H1 _ e1 s1 r1 h1 => ?_⟩
  cases pv with
  | r n => exact h1.elim
  | f f =>
    cases f with
    | lst xs =>
      obtain ⟨l, vs, rfl, nl, hl, rs⟩ := r1
      exact ⟨l, vs, rfl, SqL.of hl, h1.ok s1 (itm_enum (fun L' H' o => SqL.of (o _ _ hl nl).2) rs)⟩
    | scr xs =>
      obtain ⟨l, rfl, hl⟩ := VF.scrSq r1
      rw [hK] at hl
      refine ⟨l, _, rfl, hl, h1.ok s1 (itm_enum (vs := xs.map V.int) (fun L' H' o => ?_) VFs.ofInts)⟩
      obtain ⟨a, e, q⟩ := (scr_old r1 o).scrSq
      cases e
      rw [← hK]
      exact q
    | _ => exact h1.elim
theorem zip_sound {env : Env} {st : Store} {L : Lay} {σ : St} {H : Hp} {Rk : It → Hp → Prop} (s : StR C L st H) (he : EnvR C L env σ H) (h : Ans X C σ L H (fun L' H' xs J => ItM C J xs L' H') (evIT sub Γ (.zip a b) env st) Rk) :
    iZip X.K (tCons (tE X C (evE sub Γ a)) (tCons (tE X C (evE sub Γ b)) tNil)) σ H Rk := by
  simp only [evIT, R.frI] at h
  refine ⟨env, st, L, s, he, h.bind fun pa st1 L1 v H1 _ e1 s1 r1 h1 => ?_⟩
  cases pa with
  | r n => exact h1.elim
  | f fa =>
    refine ⟨env, st1, L1, s1, he.ext e1, h1.bind fun pb st2 L2 w H2 _ e2 s2 r2 h2 => ?_⟩
    cases pb with
    | r n => exact h2.elim
    | f fb =>
      have r1 := VP.ext e2 r1
      cases fa with
      | lst xs =>
        cases fb with
        | lst ys =>
          obtain ⟨l, vs, rfl, nl, hl, rs⟩ := r1
          obtain ⟨m, ws, rfl, nm, hm, rs'⟩ := r2
          exact ⟨l, m, vs, ws, rfl, SqL.of hl, SqL.of hm, h2.ok s2 (itm_zip nl hl rs nm hm rs')⟩
        | _ => exact h2.elim
      | _ => exact h2.elim
theorem mi_zip {elts : List Expr} {kk : Nat} (ha : ME X C sub Γ a xa) (hb : ME X C sub Γ b xb) (hm : X.mg "zip" = none) (hg : Gl X "zip") (h1 : starEach (xa :: [xb]) X.env = (false, eval xa X.env) :: starEach [xb] X.env) (h2 : starEach (xb :: []) X.env = (false, eval xb X.env) :: starEach [] X.env)
    (hpl : (backTo pos (starEach [xb] X.env)).any (·.1) = false) : MI X C sub Γ (.zip a b) (.Tuple elts kk tpos) (.Call (.Name "zip" p) [xa, xb] [] pos) :=
  ⟨_, pi_zip hg hm (pa_cons ha (pa_cons hb pa_nil h2) h1) h1 hpl, fun _ _ _ _ _ _ hs he h => zip_sound hs he h⟩
theorem mi_zipN {px : Pos} (ha : ME X C sub Γ a xa) (hb : ME X C sub Γ b xb) (hm : X.mg "zip" = none) (hg : Gl X "zip") (h1 : starEach (xa :: [xb]) X.env = (false, eval xa X.env) :: starEach [xb] X.env) (h2 : starEach (xb :: []) X.env = (false, eval xb X.env) :: starEach [] X.env)
    (hpl : (backTo pos (starEach [xb] X.env)).any (·.1) = false) : MI X C sub Γ (.zip a b) (.Name n px) (.Call (.Name "zip" p) [xa, xb] [] pos) :=
  ⟨_, pi_zipN hg hm (pa_cons ha (pa_cons hb pa_nil h2) h1) h1 hpl, fun _ _ _ _ _ _ hs he h => zip_sound hs he h⟩
/-! ### targets -/
def tGm (C : CT) (tgs : List Nat) : TG := fun v σ H Q => ∃ env L f env', EnvR C L env σ H ∧ VF C L.all H f v ∧ bindT env tgs f = some env' ∧ ∀ σ', EnvR C L env' σ' H → wipe σ' tgs = wipe σ tgs → Q σ' H
def MG (X : Cx) (C : CT) (tgs : List Nat) (tg : Expr) : Prop := PG X tg (tGm C tgs)
theorem mg_name {i : Nat} (hs : Fk.Sto X n) (hd : X.N.Nodup) (hi : X.N[i]? = some n) : MG X C [i] (.Name n pos) := by
  refine ⟨fun pins s σ H v u Q I r q => (pg_name (i := i) hd hi hs.loc hs.fn).run pins s σ H v u Q I r ?_⟩
  obtain ⟨env, L, f, env', he, rf, hb, q⟩ := q
  cases hb
  refine q _ (he.set (pv := .f f) rf) ?_
  show ((wipe (σ.set i (some v)) []).set i none) = (wipe σ []).set i none
  simp [wipe]
theorem mg_tup2 {i j : Nat} {k : Nat} {x1 x2 : Str} {p1 p2 : Pos} (hc : X.calm = true) (hs1 : Fk.Sto X x1) (hs2 : Fk.Sto X x2) (hd : X.N.Nodup) (hi : X.N[i]? = some x1) (hj : X.N[j]? = some x2)
    (h1 : (assignEach (.Name x1 p1 :: .Name x2 p2 :: []) X.env).map (·.2) = assign (.Name x1 p1) X.env :: (assignEach (.Name x2 p2 :: []) X.env).map (·.2)) (h2 : (assignEach (.Name x2 p2 :: []) X.env).map (·.2) = assign (.Name x2 p2) X.env :: (assignEach [] X.env).map (·.2))
    (hn : (assignEach [.Name x1 p1, .Name x2 p2] X.env).length = 2) (hst : (assignEach [.Name x1 p1, .Name x2 p2] X.env).findIdx? (·.1) = none) : MG X C [i, j] (.Tuple [.Name x1 p1, .Name x2 p2] k pos) := by
  have hp := pg_tup (X := X) (k := k) (pos := pos) hc (pgs_cons (pg_name (i := i) (pos := p1) hd hi hs1.loc hs1.fn) (pgs_cons (pg_name (i := j) (pos := p2) hd hj hs2.loc hs2.fn) pgs_nil h2) h1) hn hst
  refine ⟨fun pins s σ H v u Q I r q => hp.run pins s σ H v u Q I r ?_⟩
  obtain ⟨env, L, f, env', he, rf, hb, q⟩ := q
  cases f with
  | tup xs =>
    match xs, hb, rf with
    | [x, y], hb, rf =>
      cases hb
      obtain ⟨a, vs, rfl, na, ha, rs⟩ := rf
      obtain ⟨v, w, rfl, r1, r2⟩ := rs.two
      refine ⟨a, _, rfl, SqT.of ha, rfl, v, _, rfl, w, _, rfl, rfl, q _ ((he.set (pv := .f x) r1).set (pv := .f y) r2) ?_⟩
      show ((wipe ((σ.set i (some v)).set j (some w)) []).set j none).set i none = ((wipe σ []).set j none).set i none
      simp only [wipe, List.set_set]
      by_cases hij : i = j
      · subst hij; simp
      · rw [List.set_comm _ _ hij, List.set_set]
  | _ => cases hb
end
end MP

/-! comprehensions -/
namespace MP
open PySem L2
/-- an expression that is not let out of by an exception -/
def tEo (C : CT) (ev : Env → Store → R PV) : TE := fun σ H Q => ∃ env st L pv st', StR C L st H ∧ EnvR C L env σ H ∧ ev env st = .ok pv st' ∧ ∀ L' b H', Ext L H L' H' → StR C L' st' H' → VP C L' H' pv b → Q b H'
def tTo (C : CT) (ev : Env → Store → R PV) : TT := fun σ H Q => ∃ env st L b st', StR C L st H ∧ EnvR C L env σ H ∧ ev env st = .ok (.f (.bl b)) st' ∧ ∀ L' H', Ext L H L' H' → StR C L' st' H' → Q b H'
/-- a condition: that there is none, or one -/
def tIo (C : CT) (c : Option (Env → Store → R PV)) : TT := match c with
  | none => fun _ H Q => Q true H
  | some ev => tTo C ev
section
variable {X : Cx} {C : CT} {σ : St} {sub : Nat → Nat → Option Bool} {Γ : Call} {a b c e elt : E} {it : IT} {xa xb xc x xelt tg iter : Expr} {ifs : List Expr} {pos spos : Pos} {tgs : List Nat} {own : List (Str × Nat)} {scope : Scope}
theorem me_o (h : ME X C sub Γ e x) : PE X x (tEo C (evE sub Γ e)) := PE_imp h fun σ H Q ⟨env, st, L, pv, st', s, he, hv, q⟩ => ⟨env, st, L, s, he, by rw [hv]; exact q⟩
theorem mt_o (h : MT X C sub Γ e x) : PT X x (tTo C (evE sub Γ e)) := Fk.PT_imp h fun σ H Q ⟨env, st, L, b, st', s, he, hv, q⟩ => ⟨env, st, L, s, he, by rw [hv]; exact fun L' b' H' e1 s1 r1 => by subst r1; exact q L' H' e1 s1⟩
theorem wipeE_r {L : Lay} {H : Hp} {env : Env} {σ : St} (h : EnvR C L env σ H) : ∀ vs : List Nat, EnvR C L (wipeE env vs) (wipe σ vs) H
  | [] => h
  | v :: vs => (wipeE_r h vs).drop
/-- the turns, in the machine: the target's values, the condition, the element -/
def lcH (tgs : List Nat) (cv : Option (Env → Store → R PV)) (ev : Env → Store → R PV) (env : Env) (x : FV) (st : Store) : R (Option FV) := match bindT (wipeE env tgs) tgs x with
  | some env' => match cv with
    | none => (ev env' st).bind fun pv st => match pv with | .f v => .ok (some v) st | .r _ => .bad
    | some cv => (cv env' st).tst fun k st => if k = true then (ev env' st).bind fun pv st => match pv with | .f v => .ok (some v) st | .r _ => .bad else .ok none st
  | none => .bad
theorem lc_ok {h : FV → Store → R (Option FV)} : ∀ {xs acc : List FV} {st : Store} {vs : List FV} {st' : Store}, lcL h xs acc st = .ok vs st' → ∃ (S : Nat → Store) (A : Nat → List FV), S 0 = st ∧ A 0 = acc ∧ S xs.length = st' ∧ A xs.length = vs ∧
    ∀ i x, xs[i]? = some x → (A i).length < line ∧ ∃ o, h x (S i) = .ok o (S (i + 1)) ∧ A (i + 1) = A i ++ o.toList
  | [], acc, st, vs, st', e => by
    cases e
    exact ⟨fun _ => st, fun _ => acc, rfl, rfl, rfl, rfl, fun i x h => by simp at h⟩
  | y :: xs, acc, st, vs, st', e => by
    unfold lcL at e
    split at e
    · rename_i hl
      have key : ∃ o st1, h y st = .ok o st1 ∧ lcL h xs (acc ++ o.toList) st1 = .ok vs st' := by
        cases hy : h y st with
        | bad => rw [hy] at e; cases e
        | exc c s => rw [hy] at e; cases e
        | ok o st1 =>
          rw [hy] at e
          cases o with
          | none => exact ⟨none, st1, rfl, by simpa using e⟩
          | some v => exact ⟨some v, st1, rfl, e⟩
      obtain ⟨o, st1, h1, h2⟩ := key
      obtain ⟨S, A, e1, e2, e3, e4, k⟩ := lc_ok h2
      refine ⟨fun i => match i with | 0 => st | i + 1 => S i, fun i => match i with | 0 => acc | i + 1 => A i, rfl, rfl, e3, e4, fun i x hx => ?_⟩
      cases i with
      | zero =>
        simp at hx
        subst hx
        exact ⟨hl, o, by show h y st = .ok o (S 0); rw [e1]; exact h1, e2⟩
      | succ i => exact k i x (by simpa using hx)
    · cases e
theorem lcL_noexc {h : FV → Store → R (Option FV)} : ∀ {xs acc : List FV} {st : Store} {c : Nat} {st' : Store}, lcL h xs acc st ≠ .exc c st'
  | [], acc, st, c, st', e => by cases e
  | y :: xs, acc, st, c, st', e => by
    unfold lcL at e
    split at e
    · split at e
      · exact lcL_noexc e
      · exact lcL_noexc e
      · cases e
    · cases e
theorem lc_sound {wi : TI} {σ : St} {H : Hp} {Q : VK} {cv : Option (Env → Store → R PV)} {env : Env} {st : Store} {L : Lay} (hs : StR C L st H) (he : EnvR C L env σ H)
    (hw : ∀ (Rk : It → Hp → Prop), Ans X C σ L H (fun L' H' xs J => ItM C J xs L' H') (evIT sub Γ it env st) Rk → wi σ H Rk)
    (h : Ans X C σ L H (relV C) ((evIT sub Γ it env st).bind fun xs st => (lcL (lcH tgs cv (evE sub Γ elt) env) xs [] st).bind fun vs st => .ok (.f (.lst vs)) st) Q) :
    tLc wi (tGm C tgs) (tIo C cv) (tEo C (evE sub Γ elt)) tgs σ H Q := by
  refine hw _ (h.bind fun xs st1 L1 J H1 _ e1 s1 W h1 => ?_)
  intro D hD
  have he1 := he.ext e1
  cases hl : lcL (lcH tgs cv (evE sub Γ elt) env) xs [] st1 with
  | bad => rw [hl] at h1; exact h1.elim
  | exc c s => exact absurd hl lcL_noexc
  | ok vs st2 =>
    rw [hl] at h1
    simp only [R.bind] at h1
    obtain ⟨S, A, S0, A0, Sn, An, turn⟩ := lc_ok hl
    obtain ⟨Gd, Y, wk, hG, hY⟩ := W
    have nD := s1.fresh hD
    -- between two turns
    let Pv : Nat → Hp → Prop := fun i H' => ∃ L' ws, L'.x = D :: L1.x ∧ L1.m <+: L'.m ∧ StR C L' (S i) H' ∧ Old L1 H1 L' H' ∧ (∀ a ∈ L1.x, H' a = H1 a) ∧ H' D = some (.lst ws) ∧ VFs C L'.all H' (A i) ws
    have old0 : Old L1 H1 ⟨L1.m, D :: L1.x⟩ (upd H1 D (.lst [])) := fun a o ha na => ⟨by
      show a ∉ L1.m ++ D :: L1.x
      have na : a ∉ L1.m ++ L1.x := na
      simp only [List.mem_append, List.mem_cons, not_or] at na ⊢
      exact ⟨na.1, (fun z => by rw [z, hD] at ha; cases ha), na.2⟩, by rw [upd_ne (ne_of_none ha hD)]; exact ha⟩
    refine lc_it wk Pv ⟨⟨L1.m, D :: L1.x⟩, [], rfl, List.prefix_refl _, ?_, old0, fun a ha => upd_ne (by rintro rfl; exact nD (List.mem_append_right _ ha)), upd_same, by rw [A0]; rfl⟩ (fun i H' _ p => ?_) (fun i x H' H2 hi p y => ?_) fun H' p => ?_
    · rw [S0]
      refine ⟨s1.len, ?_, fun n o ho => ?_, fun a ha => ?_⟩
      · show (L1.m ++ D :: L1.x).Nodup
        have nd : (L1.m ++ L1.x).Nodup := s1.nd
        have nD : D ∉ L1.m ++ L1.x := nD
        rw [List.nodup_append] at nd ⊢
        rw [List.mem_append, not_or] at nD
        exact ⟨nd.1, List.nodup_cons.mpr ⟨nD.2, nd.2.1⟩, fun a ha b hb => by
          rcases List.mem_cons.mp hb with rfl | hb
          · rintro rfl; exact nD.1 ha
          · exact nd.2.2 a ha b hb⟩
      · obtain ⟨a, ha, hob⟩ := s1.obj n o ho
        refine ⟨a, ha, ?_⟩
        have keep : ∀ u, H1 a = some u → upd H1 D (.lst []) a = some u := fun u q => by rw [upd_ne (ne_of_none q hD)]; exact q
        have vp : ∀ {pv : PV} {v : V}, VP C L1 H1 pv v → VP C ⟨L1.m, D :: L1.x⟩ (upd H1 D (.lst [])) pv v := fun {pv v} r => by
          cases pv with
          | f f => exact VF.at (X := L1.all) old0 r
          | r n => exact r
        exact ObjP.vp vp keep hob
      · rcases List.mem_cons.mp ha with rfl | hax
        · rw [upd_same]; simp
        · rw [upd_ne (by rintro rfl; exact nD (List.mem_append_right _ hax))]; exact s1.ex a hax
    · obtain ⟨L', ws, _, _, _, o, _⟩ := p
      exact hG L' H' o
    · obtain ⟨L', ws, hx, hpre, s', o, hxs, hd, rs⟩ := p
      obtain ⟨sm, hall, f, ef, rf⟩ := hY i L' H' x H2 hi o s'.live y
      obtain ⟨hlen, op, ho, ha⟩ := turn i f ef
      have s2 : StR C L' (S i) H2 := s'.same sm
      have ex2 : Ext L' H' L' H2 := s'.extS sm
      have o2 : Old L1 H1 L' H2 := o.trans ex2.toOld
      have he2 : EnvR C L' env σ H2 := ⟨he1.1, fun j pv e => by
        obtain ⟨v, ev, rv⟩ := he1.2 j pv e
        refine ⟨v, ev, ?_⟩
        cases pv with
        | f g => exact VF.at (X := L1.all) o2 rv
        | r n =>
          obtain ⟨a, hma, hv⟩ := rv
          obtain ⟨t, ht⟩ := hpre
          exact ⟨a, by rw [← ht, List.getElem?_append_left (List.getElem?_eq_some_iff.mp hma).1]; exact hma, hv⟩⟩
      unfold lcH at ho
      cases hb : bindT (wipeE env tgs) tgs f with
      | none => rw [hb] at ho; cases ho
      | some env' =>
        rw [hb] at ho
        simp only at ho
        have hD' : D ∈ L'.x := by rw [hx]; exact List.mem_cons_self
        -- behind the element
        have fin : ∀ {L3 : Lay} {H3 : Hp} {v : FV} {w : V}, Ext L' H2 L3 H3 → StR C L3 (S (i + 1)) H3 → A (i + 1) = A i ++ [v] → VF C L3.all H3 v w → ∃ acc, H3 D = some (.lst acc) ∧ acc.length < sizeLine ∧ Pv (i + 1) (upd H3 D (.lst (acc ++ [w]))) := fun {L3 H3 v w} e3 s3 ea r3 => by
          have hd3 : H3 D = some (.lst ws) := by rw [e3.xs D hD', hall D (List.mem_append_right _ hD')]; exact hd
          have rs3 : VFs C L3.all H3 (A i) ws := (VFs.at (X := L'.all) ex2.old rs).ext e3
          have hD3 : D ∈ L3.all := List.mem_append_right _ (by rw [e3.x]; exact hD')
          have keepU : ∀ {a : Addr} {u : HO}, H3 a = some u → a ∉ L3.all → a ∉ L3.all ∧ upd H3 D (.lst (ws ++ [w])) a = some u := fun {a u} q n => ⟨n, by rw [upd_ne (by rintro rfl; exact n hD3)]; exact q⟩
          refine ⟨ws, hd3, by rw [rs3.length]; exact Nat.lt_of_lt_of_le hlen (by decide), L3, ws ++ [w], by rw [e3.x, hx], hpre.trans e3.pre, ?_, ?_, ?_, upd_same, ?_⟩
          · have nd : (L3.m ++ L3.x).Nodup := s3.nd
            rw [List.nodup_append] at nd
            refine ⟨s3.len, s3.nd, fun n u hu => ?_, fun a ha => ?_⟩
            · obtain ⟨a, hma, hob⟩ := s3.obj n u hu
              have nea : a ≠ D := fun z => nd.2.2 a (List.mem_of_getElem? hma) D (by rw [e3.x]; exact hD') z
              refine ⟨a, hma, ObjP.vp (fun {pv v} r => ?_) (fun u q => by rw [upd_ne nea]; exact q) hob⟩
              cases pv with
              | f g => exact VF.at (X := L3.all) (fun a o q n => keepU q n) r
              | r n => exact r
            · by_cases z : a = D
              · subst z; rw [upd_same]; simp
              · rw [upd_ne z]; exact s3.ex a ha
          · exact fun a u q n => by
              obtain ⟨n2, q2⟩ := (o2.trans e3.toOld) a u q n
              exact keepU q2 n2
          · intro a ha
            have z : a ≠ D := by rintro rfl; exact nD (List.mem_append_right _ ha)
            have hax : a ∈ L'.x := by rw [hx]; exact List.mem_cons_of_mem _ ha
            rw [upd_ne z, e3.xs a hax, hall a (List.mem_append_right _ hax)]
            exact hxs a ha
          · rw [ea]
            exact VFs.at (X := L3.all) (fun a o q n => keepU q n) (rs3.append ⟨w, [], rfl, r3, rfl⟩)
        refine ⟨wipeE env tgs, L', f, env', wipeE_r he2 tgs, rf, hb, fun σ' he' hw' => ⟨?_, ?_⟩⟩
        · rw [hw']
          apply List.ext_getElem?
          intro j
          rw [Fk.wipe_get, Fk.wipe_get]
          by_cases hj : j ∈ tgs
          · rw [if_pos hj, if_pos hj]; cases σ[j]? <;> rfl
          · rw [if_neg hj, if_neg hj]
        cases cv with
        | none =>
          simp only at ho
          delta tIo
          dsimp only
          cases hev : evE sub Γ elt env' (S i) with
          | bad => rw [hev] at ho; cases ho
          | exc c s => rw [hev] at ho; cases ho
          | ok pv s3 =>
            rw [hev] at ho
            cases pv with
            | r n => cases ho
            | f v =>
              cases ho
              exact iteT ⟨env', S i, L', .f v, S (i + 1), s2, he', hev, fun L3 w H3 e3 s3 r3 => fin e3 s3 ha r3⟩
        | some cf =>
          simp only at ho
          cases hc : cf env' (S i) with
          | bad => rw [hc] at ho; cases ho
          | exc c s => rw [hc] at ho; cases ho
          | ok pc sc =>
            rw [hc] at ho
            cases pc with
            | r n => cases ho
            | f fc =>
              cases fc with
              | bl k =>
                refine ⟨env', S i, L', k, sc, s2, he', hc, fun L3 H3 e3 s3 => ?_⟩
                simp only [R.tst, R.bind] at ho
                cases k with
                | false =>
                  rw [if_neg (by decide)] at ho
                  cases ho
                  refine iteF ⟨L3, ws, by rw [e3.x, hx], hpre.trans e3.pre, s3, o2.trans e3.toOld, fun a hax => ?_, ?_, ?_⟩
                  · have hax' : a ∈ L'.x := by rw [hx]; exact List.mem_cons_of_mem _ hax
                    rw [e3.xs a hax', hall a (List.mem_append_right _ hax')]
                    exact hxs a hax
                  · rw [e3.xs D hD', hall D (List.mem_append_right _ hD')]; exact hd
                  · rw [ha]
                    simp only [Option.toList, List.append_nil]
                    exact (VFs.at (X := L'.all) ex2.old rs).ext e3
                | true =>
                  rw [if_pos rfl] at ho
                  refine iteT ?_
                  cases hev : evE sub Γ elt env' sc with
                  | bad => rw [hev] at ho; cases ho
                  | exc c s => rw [hev] at ho; cases ho
                  | ok pv s4 =>
                    rw [hev] at ho
                    cases pv with
                    | r n => cases ho
                    | f v =>
                      cases ho
                      exact ⟨env', sc, L3, .f v, S (i + 1), s3, he'.ext e3, hev, fun L4 w H4 e4 s4 r4 => fin (e3.trans e4) s4 ha r4⟩
              | _ => cases ho
    · obtain ⟨L', ws, hx, hpre, s', o, hxs, hd, rs⟩ := p
      rw [Sn] at s'
      rw [An] at rs
      have nd : (L'.m ++ L'.x).Nodup := s'.nd
      rw [hx, List.nodup_append, List.nodup_cons] at nd
      have sub' : ∀ a, a ∈ (⟨L'.m, L1.x⟩ : Lay).all → a ∈ L'.all := fun a ha => by
        rcases List.mem_append.mp ha with h | h
        · exact List.mem_append_left _ h
        · exact List.mem_append_right _ (by rw [hx]; exact List.mem_cons_of_mem _ h)
      refine h1 ⟨L'.m, L1.x⟩ _ H' ⟨hpre, rfl, fun a u q n => ⟨fun z => (o a u q n).1 (sub' a z), (o a u q n).2⟩, hxs⟩ ⟨s'.len, ?_, fun n u hu => ?_, fun a ha => s'.ex a (by rw [hx]; exact List.mem_cons_of_mem _ ha)⟩ ⟨D, ws, rfl, ?_, hd, VFs.less sub' rs⟩
      · show (L'.m ++ L1.x).Nodup
        rw [List.nodup_append]
        exact ⟨nd.1, nd.2.1.2, fun a ha b hb => nd.2.2 a ha b (List.mem_cons_of_mem _ hb)⟩
      · obtain ⟨a, hma, hob⟩ := s'.obj n u hu
        refine ⟨a, hma, ObjP.vp (fun {pv v} r => ?_) (fun u q => q) hob⟩
        cases pv with
        | f g => exact VF.less sub' r
        | r n => exact r
      · show D ∉ L'.m ++ L1.x
        rw [List.mem_append, not_or]
        exact ⟨fun z => nd.2.2 D z D List.mem_cons_self rfl, nd.2.1.1⟩
end
end MP

/-! statements of the machine -/
namespace MP
open PySem L2
def AnsS (X : Cx) (C : CT) (L : Lay) (H : Hp) (r : SR) (D : Ends) : Prop := match r with
  | .nx env st => ∀ L' σ' H', Ext L H L' H' → StR C L' st H' → EnvR C L' env σ' H' → D.nx σ' H'
  | .rt pv st => ∀ L' v H', Ext L H L' H' → StR C L' st H' → VP C L' H' pv v → D.rt v H'
  | .exc c env st => Takes X (fun cls d σ' H' => cls = .ref (C.ca c) ∧ d = none ∧ ∃ L', Ext L H L' H' ∧ StR C L' st H' ∧ EnvR C L' env σ' H')
  | .bad => False
def tSs (X : Cx) (C : CT) (ex : Env → Store → SR) : TS := fun D σ H => ∃ env st L, StR C L st H ∧ EnvR C L env σ H ∧ AnsS X C L H (ex env st) D
section
variable {X : Cx} {C : CT} {σ : St} {L L1 : Lay} {H H1 : Hp} {α β : Type} {rel : Lay → Hp → α → β → Prop} {r : R α} {Q : β → Hp → Prop} {D : Ends} {env : Env} {st : Store}
theorem AnsS.ext {q : SR} (e : Ext L H L1 H1) (h : AnsS X C L H q D) : AnsS X C L1 H1 q D := by
  cases q with
  | nx env st => exact fun L' σ' H' e' s' he' => h L' σ' H' (e.trans e') s' he'
  | rt pv st => exact fun L' v H' e' s' r' => h L' v H' (e.trans e') s' r'
  | exc c env st => exact takes_mono' h fun cls d σ' H' ⟨e1, e2, L', e', s', he'⟩ => ⟨e1, e2, L', e.trans e', s', he'⟩
  | bad => exact h
theorem AnsS.s {k : α → Store → SR} (he : EnvR C L env σ H) (h : AnsS X C L H (r.s env k) D)
    (q : ∀ a st L1 b H1, r = .ok a st → Ext L H L1 H1 → StR C L1 st H1 → rel L1 H1 a b → AnsS X C L1 H1 (k a st) D → Q b H1) : Ans X C σ L H rel r Q := by
  cases r with
  | ok a st => exact fun L' b H' e' s' r' => q a st L' b H' rfl e' s' r' (AnsS.ext e' h)
  | exc c st => exact takes_mono' h fun cls d σ' H' ⟨e1, e2, e3, L', e', s'⟩ => ⟨e1, e2, L', e', s', by rw [e3]; exact he.ext e'⟩
  | bad => exact h
theorem AnsS.bind {q : SR} {k : Env → Store → SR} (h : AnsS X C L H (q.bind k) D) : AnsS X C L H q { D with nx := tSs X C k D } := by
  cases q with
  | nx env st => exact fun L' σ' H' e' s' he' => ⟨env, st, L', s', he', AnsS.ext e' h⟩
  | rt pv st => exact h
  | exc c env st => exact h
  | bad => exact h
theorem AnsS.imp {q : SR} {D' : Ends} (h : AnsS X C L H q D) (h1 : ∀ σ' H', D.nx σ' H' → D'.nx σ' H') (h2 : ∀ v H', D.rt v H' → D'.rt v H') : AnsS X C L H q D' := by
  cases q with
  | nx env st => exact fun L' σ' H' e' s' he' => h1 _ _ (h L' σ' H' e' s' he')
  | rt pv st => exact fun L' v H' e' s' r' => h2 _ _ (h L' v H' e' s' r')
  | exc c env st => exact h
  | bad => exact h
theorem AnsS.nx (h : AnsS X C L H (.nx env st) D) (s : StR C L st H) (he : EnvR C L env σ H) : D.nx σ H := h L σ H (Ext.refl L H) s he
theorem of_ofS {o : Option α} {k : α → SR} (h : AnsS X C L H (SR.of o k) D) : ∃ a, o = some a ∧ AnsS X C L H (k a) D := by
  cases o with
  | none => exact h.elim
  | some a => exact ⟨a, rfl, h⟩
end
section
variable (X : Cx) (C : CT) (sub : Nat → Nat → Option Bool) (Γ : Call) (W : Nat)
def MS (s : S) (x : Stmt) : Prop := PS X x (tSs X C (exS sub Γ W s))
def MB (b : Bk) (x : List Stmt) : Prop := PSs X x (tSs X C (exB sub Γ W b))
end
section
variable {X : Cx} {C : CT} {σ : St} {sub : Nat → Nat → Option Bool} {Γ : Call} {W : Nat} {a b c e elt : E} {s : S} {bk bt bf : Bk} {it : IT} {xa xb xc x xelt tg iter : Expr} {st : Stmt} {sts : List Stmt} {ifs : List Expr} {pos pos' p spos py : Pos} {tgs : List Nat} {own : List (Str × Nat)} {scope : Scope} {n : Str} {i j : Nat}
theorem mb_nil : MB X C sub Γ W .nil [] := Fk.PSs_imp pss_nil fun D σ H ⟨env, st, L, hs, he, h⟩ => by
  simp only [exB] at h
  exact h.nx hs he
theorem mb_cons (h1 : MS X C sub Γ W s st) (h2 : MB X C sub Γ W bk sts) : MB X C sub Γ W (.cons s bk) (st :: sts) := Fk.PSs_imp (pss_cons h1 h2) fun D σ H ⟨env, st, L, hs, he, h⟩ => by
  simp only [exB] at h
  exact ⟨env, st, L, hs, he, h.bind⟩
theorem ms_set (hN : X.N.Nodup) (hi : X.N[i]? = some n) (hx : Loc X.env.scope n) (hf : X.fn n = true ∨ X.env.scope.names.lookup n = some .local) (h : ME X C sub Γ e x) (hs : swapsWith x (some (.Name n pos')) pos.line X.env = pure false) : MS X C sub Γ W (.set i e) (.Assign [.Name n pos'] x pos) := by
  refine Fk.PS_imp (ps_set hN hi hx h hs hf) fun D σ H ⟨env, st, L, hs, he, h⟩ => ?_
  simp only [exS] at h
  refine ⟨env, st, L, hs, he, h.s he fun pv st1 L1 v H1 _ e1 s1 r1 h1 => ?_⟩
  exact h1.nx s1 ((he.ext e1).set r1)
theorem ms_expr (h : ME X C sub Γ e x) (hs : swapsWith x none pos.line X.env = pure false) : MS X C sub Γ W (.ex e) (.Expr x pos) := by
  refine Fk.PS_imp (ps_expr h hs) fun D σ H ⟨env, st, L, hs, he, h⟩ => ?_
  simp only [exS] at h
  refine ⟨env, st, L, hs, he, h.s he fun pv st1 L1 v H1 _ e1 s1 r1 h1 => ?_⟩
  exact h1.nx s1 (he.ext e1)
theorem ms_ret (h : ME X C sub Γ e x) : MS X C sub Γ W (.ret e) (.Return (some x) pos) := by
  refine Fk.PS_imp (ps_ret h) fun D σ H ⟨env, st, L, hs, he, h⟩ => ?_
  simp only [exS] at h
  refine ⟨env, st, L, hs, he, h.s he fun pv st1 L1 v H1 _ e1 s1 r1 h1 => ?_⟩
  exact h1 L1 v H1 (Ext.refl _ _) s1 r1
theorem ms_unp (hg : MG X C tgs tg) (h : ME X C sub Γ e x) (hs : swapsWithSole [tg] x pos.line X.env = pure false) (hw : swappedStores [tg] x X.env = pure none) (h1 : (assignEach [tg] X.env).map (·.2) = [assign tg X.env]) : MS X C sub Γ W (.unp tgs e) (.Assign [tg] x pos) := by
  refine Fk.PS_imp (ps_asg h hg hs hw h1) fun D σ H ⟨env, st, L, hs, he, h⟩ => ?_
  simp only [exS] at h
  refine ⟨env, st, L, hs, he, h.s he fun pv st1 L1 v H1 _ e1 s1 r1 h1 => ?_⟩
  cases pv with
  | r n => exact h1.elim
  | f f =>
    obtain ⟨env', hb, h1⟩ := of_ofS h1
    exact ⟨env, L1, f, env', he.ext e1, r1, hb, fun σ' he' _ => h1.nx s1 he'⟩
theorem ms_par {x1 x2 : Str} {px py pt : Pos} {kt k2 : Nat} {pt2 : Pos} (hc : X.calm = true) (hN : X.N.Nodup) (hi : X.N[i]? = some x1) (hj : X.N[j]? = some x2) (hij : i ≠ j) (hx : X.env.scope.names.lookup x1 = some .local) (hy : X.env.scope.names.lookup x2 = some .local)
    (ha : ME X C sub Γ a xa) (hb : ME X C sub Γ b xb) (h1 : starEach (xa :: [xb]) X.env = (false, eval xa X.env) :: starEach [xb] X.env) (h2 : starEach (xb :: []) X.env = (false, eval xb X.env) :: starEach [] X.env)
    (hw : swappedStores [.Tuple [.Name x1 px, .Name x2 py] kt pt] (.Tuple [xa, xb] k2 pt2) X.env = pure (some [x1, x2])) (hs : swapsWithSole [.Tuple [.Name x1 px, .Name x2 py] kt pt] (.Tuple [xa, xb] k2 pt2) pos.line X.env = pure false) :
    MS X C sub Γ W (.par i j a b) (.Assign [.Tuple [.Name x1 px, .Name x2 py] kt pt] (.Tuple [xa, xb] k2 pt2) pos) := by
  refine Fk.PS_imp (ps_par hc hN hi hj hij hx hy (pa_cons ha (pa_cons hb pa_nil h2) h1) hw hs) fun D σ H ⟨env, st, L, hs, he, h⟩ => ?_
  simp only [exS] at h
  refine ⟨env, st, L, hs, he, h.s he fun pa st1 L1 v H1 _ e1 s1 r1 h1 => ?_⟩
  refine ⟨env, st1, L1, s1, he.ext e1, h1.s (he.ext e1) fun pb st2 L2 w H2 _ e2 s2 r2 h2 => ?_⟩
  exact ⟨v, w, rfl, h2.nx s2 (((he.ext (e1.trans e2)).set (VP.ext e2 r1)).set r2)⟩
theorem ms_if (hc : MT X C sub Γ c xc) (ht : MB X C sub Γ W bt sts) {sts2 : List Stmt} (hf : MB X C sub Γ W bf sts2) : MS X C sub Γ W (.ifs c bt bf) (.If xc sts sts2 pos) := by
  refine Fk.PS_imp (ps_if hc ht hf) fun D σ H ⟨env, st, L, hs, he, h⟩ => ?_
  simp only [exS] at h
  refine ⟨env, st, L, hs, he, ?_⟩
  unfold R.tst
  cases hev : evE sub Γ c env st with
  | bad => rw [hev] at h; exact h.elim
  | exc k st' =>
    rw [hev] at h
    exact takes_mono' h fun cls d σ' H' ⟨e1, e2, e3, L', e', s'⟩ => ⟨e1, e2, L', e', s', by rw [e3]; exact he.ext e'⟩
  | ok pv st1 =>
    rw [hev] at h
    cases pv with
    | r n => exact h.elim
    | f f =>
      cases f with
      | bl k =>
        intro L1 z H1 e1 s1 r1
        have r1 : k = z := r1
        subst r1
        cases k with
        | true => exact iteT ⟨env, st1, L1, s1, he.ext e1, h.ext e1⟩
        | false => exact iteF ⟨env, st1, L1, s1, he.ext e1, h.ext e1⟩
      | _ => exact h.elim
theorem ms_while (hp : PassesOwn (model X.prog X.w) X.A X.env X.xe) (hc : MT X C sub Γ c xc) (hb : MB X C sub Γ W bk sts) : MS X C sub Γ W (.whl c bk) (.While xc sts [] pos) := by
  refine Fk.PS_imp (ps_while hp hc hb) fun D σ H ⟨env, st, L, hs, he, h⟩ => ?_
  simp only [exS] at h
  refine ⟨fun m σ H => ∃ env st L, StR C L st H ∧ EnvR C L env σ H ∧ AnsS X C L H (whlL (evE sub Γ c) (exB sub Γ W bk) m env st) D, ⟨W, env, st, L, hs, he, h⟩, ?_⟩
  rintro m σ H ⟨env, st, L, hs, he, h⟩
  cases m with
  | zero => exact h.elim
  | succ m =>
    unfold whlL at h
    refine ⟨env, st, L, hs, he, ?_⟩
    unfold R.tst
    cases hev : evE sub Γ c env st with
    | bad => rw [hev] at h; exact h.elim
    | exc k st' =>
      rw [hev] at h
      exact takes_mono' h fun cls d σ' H' ⟨e1, e2, e3, L', e', s'⟩ => ⟨e1, e2, L', e', s', by rw [e3]; exact he.ext e'⟩
    | ok pv st1 =>
      rw [hev] at h
      cases pv with
      | r n => exact h.elim
      | f f =>
        cases f with
        | bl k =>
          intro L1 z H1 e1 s1 r1
          have r1 : k = z := r1
          subst r1
          cases k with
          | true =>
            refine iteT ⟨_, fun σ' H' q => ⟨m, Nat.lt_succ_self m, q⟩, env, st1, L1, s1, he.ext e1, ?_⟩
            exact ((AnsS.bind (h.ext e1)).imp (D' := { D with nx := tSs X C (whlL (evE sub Γ c) (exB sub Γ W bk) m) D, ct := tSs X C (whlL (evE sub Γ c) (exB sub Γ W bk) m) D, bk := D.nx }) (fun _ _ q => q) (fun _ _ q => q))
          | false => exact iteF (AnsS.nx (h.ext e1) s1 (he.ext e1))
        | _ => exact h.elim
theorem ms_for (hp : PassesOwn (model X.prog X.w) X.A X.env X.xe) (hc : X.calm = true) (hi : MI X C sub Γ it tg iter) (hg : MG X C tgs tg) (hb : MB X C sub Γ W bk sts) (hs : ∀ x, foldedSetIterable iter X.env x = pure x) : MS X C sub Γ W (.fors tgs it bk) (.For tg iter sts [] pos) := by
  obtain ⟨wi, hpi, hw⟩ := hi
  refine Fk.PS_imp (ps_for hp hc hpi hg hb hs) fun D σ H ⟨env, st, L, hs, he, h⟩ => ?_
  simp only [exS] at h
  refine hw σ H _ env st L hs he (h.s he fun xs st1 L1 J H1 _ e1 s1 W' h1 => ?_)
  obtain ⟨Gd, Y, wk, hG, hY⟩ := W'
  refine for_it wk (fun i σ H => ∃ env st L, StR C L st H ∧ EnvR C L env σ H ∧ Old L1 H1 L H ∧ AnsS X C L H (forL (fun x env st => SR.of (bindT env tgs x) fun env => exB sub Γ W bk env st) (xs.drop i) env st) D) ⟨env, st1, L1, s1, he.ext e1, (Ext.refl _ _).toOld, h1⟩ (fun i σ' H' _ p => ?_) (fun i x σ' H' H2 hi p y => ?_) fun σ' H' p => ?_
  · obtain ⟨_, _, L', _, _, o, _⟩ := p
    exact hG L' H' o
  · obtain ⟨env', st', L', s', he', o, h'⟩ := p
    obtain ⟨sm, hall, f, ef, rf⟩ := hY i L' H' x H2 hi o s'.live y
    have ex2 : Ext L' H' L' H2 := s'.extS sm
    have ed : xs.drop i = f :: xs.drop (i + 1) := by
      obtain ⟨hl, e⟩ := List.getElem?_eq_some_iff.mp ef
      rw [List.drop_eq_getElem_cons hl, e]
    rw [ed] at h'
    unfold forL at h'
    have h' := h'.ext ex2
    cases hbt : bindT env' tgs f with
    | none => rw [hbt] at h'; exact h'.elim
    | some env2 =>
      rw [hbt] at h'
      have h' : AnsS X C L' H2 ((exB sub Γ W bk env2 st').bind fun env st => forL (fun x env st => SR.of (bindT env tgs x) fun env => exB sub Γ W bk env st) (xs.drop (i + 1)) env st) D := h'
      refine ⟨env', L', f, env2, he'.ext ex2, rf, hbt, fun σ3 he3 _ => ⟨env2, st', L', s'.same sm, he3, ?_⟩⟩
      have o2 := o.trans ex2.toOld
      cases hev : exB sub Γ W bk env2 st' with
      | nx env4 st4 =>
        rw [hev] at h'
        exact fun L4 σ4 H4 e4 s4 he4 => ⟨env4, st4, L4, s4, he4, o2.trans e4.toOld, AnsS.ext e4 h'⟩
      | rt pv st4 => rw [hev] at h'; exact h'
      | exc c env4 st4 => rw [hev] at h'; exact h'
      | bad => rw [hev] at h'; exact h'
  · obtain ⟨env', st', L', s', he', o, h'⟩ := p
    rw [List.drop_length] at h'
    exact h'.nx s' he'
/-! ### comprehensions, as values, and stored -/
theorem evE_lc (env : Env) (st : Store) : evE sub Γ (.lc elt tgs it) env st = (evIT sub Γ it env st).bind fun xs st => (lcL (lcH tgs none (evE sub Γ elt) env) xs [] st).bind fun vs st => .ok (.f (.lst vs)) st := by
  rw [evE]
  rfl
theorem evE_lcIf (env : Env) (st : Store) : evE sub Γ (.lcIf elt tgs it c) env st = (evIT sub Γ it env st).bind fun xs st => (lcL (lcH tgs (some (evE sub Γ c)) (evE sub Γ elt) env) xs [] st).bind fun vs st => .ok (.f (.lst vs)) st := by
  rw [evE]
  rfl
theorem mv_lc (hc : X.calm = true) (hd : X.N.Nodup) (hi : MI X C sub Γ it tg iter) (ok : BlkOk X.N X.env.scope scope own) (ho : own.map (·.2) = tgs) (hg : ∀ X', Fk.InBlk X X' scope → MG X' C tgs tg) (he : ∀ X', Fk.InBlk X X' scope → ME X' C sub Γ elt xelt) (hs : ∀ x, foldedSetIterable iter X.env x = pure x) :
    ME X C sub Γ (.lc elt tgs it) (.ListComp xelt [⟨tg, iter, [], 0⟩] scope pos) := by
  obtain ⟨wi, hpi, hw⟩ := hi
  refine PE_imp (pe_lc (g := tGm C tgs) (tt := tIo C none) (te := tEo C (evE sub Γ elt)) hc hd hpi ok (fun _ _ _ _ _ => hg _ Fk.inBlk) (fun _ _ _ _ _ => pts_nil) (fun _ _ _ _ _ => me_o (he _ Fk.inBlk)) hs) fun σ H Q ⟨env, st, L, hs, he, h⟩ => ?_
  rw [evE_lc] at h
  subst ho
  exact lc_sound hs he (fun Rk q => hw σ H Rk env st L hs he q) h
theorem mv_lcIf (hc : X.calm = true) (hd : X.N.Nodup) (hi : MI X C sub Γ it tg iter) (ok : BlkOk X.N X.env.scope scope own) (ho : own.map (·.2) = tgs) (hg : ∀ X', Fk.InBlk X X' scope → MG X' C tgs tg) (ht : ∀ X', Fk.InBlk X X' scope → MT X' C sub Γ c xc) (he : ∀ X', Fk.InBlk X X' scope → ME X' C sub Γ elt xelt) (hs : ∀ x, foldedSetIterable iter X.env x = pure x) :
    ME X C sub Γ (.lcIf elt tgs it c) (.ListComp xelt [⟨tg, iter, [xc], 0⟩] scope pos) := by
  obtain ⟨wi, hpi, hw⟩ := hi
  refine PE_imp (pe_lc (g := tGm C tgs) (tt := tIo C (some (evE sub Γ c))) (te := tEo C (evE sub Γ elt)) hc hd hpi ok (fun _ _ _ _ _ => hg _ Fk.inBlk) (fun _ _ _ _ _ => pts_one (mt_o (ht _ Fk.inBlk))) (fun _ _ _ _ _ => me_o (he _ Fk.inBlk)) hs) fun σ H Q ⟨env, st, L, hs, he, h⟩ => ?_
  rw [evE_lcIf] at h
  subst ho
  exact lc_sound hs he (fun Rk q => hw σ H Rk env st L hs he q) h
theorem ms_setLc (hN : X.N.Nodup) (hi : X.N[i]? = some n) (hyl : X.env.scope.names.lookup n = some .local) (hc : X.calm = true) (hit : MI X C sub Γ it tg iter) (ok : BlkOk X.N X.env.scope scope own) (ho : own.map (·.2) = tgs) (hg : ∀ X', Fk.InBlk X X' scope → MG X' C tgs tg) (he : ∀ X', Fk.InBlk X X' scope → ME X' C sub Γ elt xelt) (hs : ∀ x, foldedSetIterable iter X.env x = pure x)
    (hsw : swapsWith (.ListComp xelt [⟨tg, iter, [], 0⟩] scope pos) (some (.Name n py)) spos.line X.env = pure true) : MS X C sub Γ W (.set i (.lc elt tgs it)) (.Assign [.Name n py] (.ListComp xelt [⟨tg, iter, [], 0⟩] scope pos) spos) := by
  obtain ⟨wi, hpi, hw⟩ := hit
  refine Fk.PS_imp (ps_setLc (g := tGm C tgs) (tt := tIo C none) (te := tEo C (evE sub Γ elt)) hc hN hi hyl hsw hpi ok (fun _ _ _ _ _ => hg _ Fk.inBlk) (fun _ _ _ _ _ => pts_nil) (fun _ _ _ _ _ => me_o (he _ Fk.inBlk)) hs) fun D σ H ⟨env, st, L, hs, he, h⟩ => ?_
  simp only [exS] at h
  have h2 : Ans X C σ L H (relV C) (evE sub Γ (.lc elt tgs it) env st) (fun v H1 => gName i v σ H1 D.nx) := h.s he fun pv st1 L1 v H1 _ e1 s1 r1 h1 => h1.nx s1 ((he.ext e1).set r1)
  rw [evE_lc] at h2
  subst ho
  exact lc_sound hs he (fun Rk q => hw σ H Rk env st L hs he q) h2
theorem ms_setLcIf (hN : X.N.Nodup) (hi : X.N[i]? = some n) (hyl : X.env.scope.names.lookup n = some .local) (hc : X.calm = true) (hit : MI X C sub Γ it tg iter) (ok : BlkOk X.N X.env.scope scope own) (ho : own.map (·.2) = tgs) (hg : ∀ X', Fk.InBlk X X' scope → MG X' C tgs tg) (ht : ∀ X', Fk.InBlk X X' scope → MT X' C sub Γ c xc) (he : ∀ X', Fk.InBlk X X' scope → ME X' C sub Γ elt xelt) (hs : ∀ x, foldedSetIterable iter X.env x = pure x)
    (hsw : swapsWith (.ListComp xelt [⟨tg, iter, [xc], 0⟩] scope pos) (some (.Name n py)) spos.line X.env = pure true) : MS X C sub Γ W (.set i (.lcIf elt tgs it c)) (.Assign [.Name n py] (.ListComp xelt [⟨tg, iter, [xc], 0⟩] scope pos) spos) := by
  obtain ⟨wi, hpi, hw⟩ := hit
  refine Fk.PS_imp (ps_setLc (g := tGm C tgs) (tt := tIo C (some (evE sub Γ c))) (te := tEo C (evE sub Γ elt)) hc hN hi hyl hsw hpi ok (fun _ _ _ _ _ => hg _ Fk.inBlk) (fun _ _ _ _ _ => pts_one (mt_o (ht _ Fk.inBlk))) (fun _ _ _ _ _ => me_o (he _ Fk.inBlk)) hs) fun D σ H ⟨env, st, L, hs, he, h⟩ => ?_
  simp only [exS] at h
  have h2 : Ans X C σ L H (relV C) (evE sub Γ (.lcIf elt tgs it c) env st) (fun v H1 => gName i v σ H1 D.nx) := h.s he fun pv st1 L1 v H1 _ e1 s1 r1 h1 => h1.nx s1 ((he.ext e1).set r1)
  rw [evE_lcIf] at h2
  subst ho
  exact lc_sound hs he (fun Rk q => hw σ H Rk env st L hs he q) h2
/-! ### exceptions -/
theorem takesAll : Takes X (fun cls d σ H => Takes X (fun cls' d' σ' H' => cls' = cls ∧ d' = d ∧ σ' = σ ∧ H' = H)) := fun u s' x => by
  obtain ⟨a, B, sI, pins, σ, H, cls, d, e1, e2, e3, e4, e5, e6, e7, e8, ac⟩ := x
  exact ac u s' ⟨a, B, sI, pins, σ, H, cls, d, e1, e2, e3, e4, e5, e6, e7, e8, rfl, rfl, rfl, rfl⟩
theorem ms_raise {k : Nat} {m : Str} {p2 rpos : Pos} (hc : X.calm = true) (ec : Fk.ErrC X.K X.mg (C.ca k) n) (hg : Gl X n) (hdb : (n == ("__debug__" : Str)) = false) : MS X C sub Γ W (.raise k) (.Raise (some (.Call (.Name n p) [.Constant (.str m) j p2] [] pos)) none rpos) := by
  refine Fk.PS_imp (ps_raise hc takesAll (pmk_own PySem.F.excBase_ValueError ec.q ec.g ec.k (raises_own ec.b ec.t) hg hdb)) fun D σ H ⟨env, st, L, hs, he, h⟩ => ?_
  simp only [exS] at h
  exact takes_mono' h fun cls d σ' H' ⟨e1, e2, e3, e4⟩ => ⟨e1, e2, L, by subst e3 e4; exact ⟨Ext.refl _ _, hs, he⟩⟩
end
end MP

/-! defs of the machine -/
namespace MP
open PySem L2
section
variable {X : Cx} {C : CT} {sub : Nat → Nat → Option Bool} {Γ : Call} {W : Nat} {bk : Bk} {body : List Stmt} {n y x : Str} {i j k : Nat} {np pos pos' py pn' apos : Pos}
theorem exc_env {L : Lay} {env : Env} {σ : St} {H : Hp} {a : Addr} {c : Nat} {st : Store} (hij : i ≠ j) (s : StR C L st H) (ha : H a = none) (he : EnvR C L env σ H) :
    EnvR C L ((env.set j (some (.f (.exc c)))).set i none) (((σ.set i (some (.ref a))).set j (some (.ref a))).set i none) (upd H a (excO a (.ref (C.ca c)))) := by
  have sm := Fk.same_new (o := excO a (.ref (C.ca c))) ha
  have r : VP C L (upd H a (excO a (.ref (C.ca c)))) (.f (.exc c)) (.ref a) := ⟨a, rfl, s.fresh ha, upd_same⟩
  have h := (((he.ext (s.extS sm)).set (i := i) r).set (i := j) r).drop (i := i)
  have e : (((env.set i (some (.f (.exc c)))).set j (some (.f (.exc c)))).set i none) = ((env.set j (some (PV.f (.exc c)))).set i none) := by
    rw [List.set_comm _ _ hij, List.set_set]
  rw [e] at h
  exact h
theorem ms_try (hex : X.ex = []) (hs : X.stack = X.env :: X.outer) (hf : X.env.frame = some X.env.locals) (hN : X.N.Nodup) (hi : X.N[i]? = some n) (hj : X.N[j]? = some y) (hij : i ≠ j) (hln : X.env.kindOf n = some .local) (hly : X.env.scope.names.lookup y = some .local) (hnd : (n == ("__debug__" : Str)) = false) (hncd : (n == ("__classdict__" : Str)) = false) (hc : Names X x (.ref (C.ca k)))
    (hm : ∀ c, sub c k = some true → PySem.W.exmOne X.K (.ref (C.ca c)) (.ref (C.ca k)) = some true)
    (hb : ∀ (pn : List (Addr × PySem.Obj)) (xe : Value → Shared → Prop), PassesOwn (model X.prog X.w) X.A X.env xe → MB (X.tr pn xe) C sub Γ W bk body) :
    MS X C sub Γ W (.tryKeep bk k j i) (.Try body [.ExceptHandler (some (.Name x np)) (some n) [.Assign [.Name y py] (.Name n pn') apos] pos'] [] [] pos) := by
  let tb : WX → TS := fun Wx D σ H => ∃ env st L, StR C L st H ∧ EnvR C L env σ H ∧ match exB sub Γ W bk env st with
    | .nx env st => ∀ L' σ' H', Ext L H L' H' → StR C L' st H' → EnvR C L' env σ' H' → D.nx σ' H'
    | .rt pv st => ∀ L' v H', Ext L H L' H' → StR C L' st H' → VP C L' H' pv v → D.rt v H'
    | .exc c env st => ∀ L' σ' H', Ext L H L' H' → StR C L' st H' → EnvR C L' env σ' H' → Wx (.ref (C.ca c)) none σ' H'
    | .bad => False
  refine Fk.PS_imp (ps_try_keep (tb := tb) hex hs hf hN hi hj hij hln hly hnd hncd hc takes0 fun Wx pn xe tk own => ?_) fun D σ H ⟨env, st, L, hs, he, h⟩ => ?_
  · refine Fk.PSs_imp (hb pn xe own) fun D σ H ⟨env, st, L, hs, he, h⟩ => ⟨env, st, L, hs, he, ?_⟩
    cases hev : exB sub Γ W bk env st with
    | bad => rw [hev] at h; exact h
    | nx env' st' => rw [hev] at h; exact h
    | rt pv st' => rw [hev] at h; exact h
    | exc c env' st' =>
      rw [hev] at h
      exact takes_mono' tk fun cls d σ' H' ⟨e1, e2, L', e3, s3, he3⟩ => by subst e1 e2; exact h L' σ' H' e3 s3 he3
  · simp only [exS] at h
    refine ⟨env, st, L, hs, he, ?_⟩
    cases hev : exB sub Γ W bk env st with
    | bad => rw [hev] at h; exact h
    | nx env' st' => rw [hev] at h; exact h
    | rt pv st' => rw [hev] at h; exact h
    | exc c env' st' =>
      rw [hev] at h
      intro L' σ' H' e3 s3 he3
      by_cases hsub : sub c k = some true
      · simp only [hsub, if_pos] at h
        refine ⟨true, hm c hsub, fun _ => ⟨rfl, fun a ha => ?_⟩, fun z => nomatch z⟩
        have sm := Fk.same_new (o := excO a (.ref (C.ca c))) ha
        exact h L' _ _ (e3.trans (s3.extS sm)) (s3.same sm) (exc_env hij s3 ha he3)
      · simp only [if_neg hsub] at h
        exact h.elim
end
/-! ### what a call leaves -/
section
variable {C : CT} {L L' : Lay} {H H' : Hp}
theorem VP.cut {pv : PV} {v v0 : V} {H0 : Hp} (pre : L.m <+: L'.m) (hx : L'.x = L.x) (h0 : VP C L H0 pv v0) (h : VP C L' H' pv v) : VP C L H' pv v := by
  cases pv with
  | f f =>
    refine VF.less (fun a ha => ?_) h
    rcases List.mem_append.mp ha with ha | ha
    · exact List.mem_append_left _ (pre.subset ha)
    · exact List.mem_append_right _ (by rw [hx]; exact ha)
  | r n =>
    obtain ⟨a, ha, _⟩ := h0
    obtain ⟨b, hb, e⟩ := h
    obtain ⟨t, ht⟩ := pre
    rw [← ht, List.getElem?_append_left (List.getElem?_eq_some_iff.mp ha).1, ha] at hb
    cases hb
    exact ⟨a, ha, e⟩
theorem VPs.cut {H0 : Hp} (pre : L.m <+: L'.m) (hx : L'.x = L.x) : ∀ {xs : List PV} {vs vs0 : List V}, VPs C L H0 xs vs0 → VPs C L' H' xs vs → VPs C L H' xs vs
  | [], _, _, _, h => h
  | x :: xs, _, _, ⟨w0, ws0, e0, h0, r0⟩, ⟨w, ws, e, h, r⟩ => ⟨w, ws, e, VP.cut pre hx h0 h, VPs.cut pre hx r0 r⟩
theorem KVs.cut {H0 : Hp} (pre : L.m <+: L'.m) (hx : L'.x = L.x) : ∀ {xs : List (KY × PV)} {vs vs0 : List (Key × V)}, KVs C L H0 xs vs0 → KVs C L' H' xs vs → KVs C L H' xs vs
  | [], _, _, _, h => h
  | (k, x) :: xs, _, _, ⟨w0, ws0, e0, h0, r0⟩, ⟨w, ws, e, h, r⟩ => ⟨w, ws, e, VP.cut pre hx h0 h, KVs.cut pre hx r0 r⟩
theorem TVs.cut {H0 : Hp} (pre : L.m <+: L'.m) (hx : L'.x = L.x) : ∀ {xs : List (List Int × PV)} {vs vs0 : List (List Key × V)}, TVs C L H0 xs vs0 → TVs C L' H' xs vs → TVs C L H' xs vs
  | [], _, _, _, h => h
  | (k, x) :: xs, _, _, ⟨w0, ws0, e0, h0, r0⟩, ⟨w, ws, e, h, r⟩ => ⟨w, ws, e, VP.cut pre hx h0 h, TVs.cut pre hx r0 r⟩
theorem ObjP.cut {H0 : Hp} {a : Addr} {o : Obj} (pre : L.m <+: L'.m) (hx : L'.x = L.x) (h0 : ObjP C L H0 a o) (h : ObjP C L' H' a o) : ObjP C L H' a o := by
  cases o with
  | lst xs => obtain ⟨v0, _, r0⟩ := h0; obtain ⟨v, e, r⟩ := h; exact ⟨v, e, r0.cut pre hx r⟩
  | dic xs => obtain ⟨v0, _, r0⟩ := h0; obtain ⟨v, e, r⟩ := h; exact ⟨v, e, r0.cut pre hx r⟩
  | dit xs => obtain ⟨v0, _, r0⟩ := h0; obtain ⟨v, e, r⟩ := h; exact ⟨v, e, r0.cut pre hx r⟩
  | ins c xs => obtain ⟨d0, v0, _, _, r0⟩ := h0; obtain ⟨d, v, e, l, r⟩ := h; exact ⟨d, v, e, l, r0.cut pre hx r⟩
/-- what was made since is let go -/
theorem StR.cut {st st' : Store} (h0 : StR C L st H) (e : Ext L H L' H') (h : StR C L' st' H') (t : st'.take st.length = st) : StR C L st H' ∧ Ext L H L H' := by
  refine ⟨⟨h0.len, h0.nd, fun n o ho => ?_, fun a ha => ?_⟩, List.prefix_refl _, rfl, fun a o q n => ⟨n, (e.old a o q n).2⟩, e.xs⟩
  · obtain ⟨a, ha, hob⟩ := h0.obj n o ho
    have ho' : st'[n]? = some o := by
      rw [← t, List.getElem?_take] at ho
      split at ho
      · exact ho
      · cases ho
    obtain ⟨b, hb, hob'⟩ := h.obj n o ho'
    obtain ⟨t', ht⟩ := e.pre
    rw [← ht, List.getElem?_append_left (List.getElem?_eq_some_iff.mp ha).1, ha] at hb
    cases hb
    exact ⟨a, ha, hob.cut e.pre e.x hob'⟩
  · rw [e.xs a ha]
    exact h0.ex a ha
theorem VF.cut {x : FV} {v : V} (e : Ext L H L' H') (h : VF C L'.all H' x v) : VF C L.all H' x v := VF.less (fun a ha => by
  rcases List.mem_append.mp ha with ha | ha
  · exact List.mem_append_left _ (e.pre.subset ha)
  · exact List.mem_append_right _ (by rw [e.x]; exact ha)) h
/-- a thing of the store that was made since, let go -/
theorem free_new {st st' : Store} {n : Nat} {a : Addr} (h0 : StR C L st H) (e : Ext L H L' H') (h : StR C L' st' H') (hn : st.length ≤ n) (ha : L'.m[n]? = some a) : a ∉ L.all := by
  have nd : (L'.m ++ L'.x).Nodup := h.nd
  rw [List.nodup_append] at nd
  intro hm
  rcases List.mem_append.mp hm with hm | hm
  · obtain ⟨k, hk⟩ := List.getElem?_of_mem hm
    have hk1 := (List.getElem?_eq_some_iff.mp hk).1
    obtain ⟨t, ht⟩ := e.pre
    have hk2 : L'.m[k]? = some a := by rw [← ht, List.getElem?_append_left hk1]; exact hk
    have := nodup_at nd.1 ha hk2
    rw [h0.len] at hk1
    omega
  · exact nd.2.2 a (List.mem_of_getElem? ha) a (by rw [e.x]; exact hm) rfl
end
section
variable {X : Cx} {C : CT} {sub : Nat → Nat → Option Bool} {W : Nat} {E : XK} {Q : VK} {d : Def} {L : Lay} {H : Hp} {st : Store}
/-- the run of a body answers as the call -/
theorem leave_sound (tk : Takes X (fun cls dd _ H' => E cls dd H')) (hs : StR C L st H) (r : SR)
    (h : match leave d st r with
      | .ok pv st' => ∀ L' v H', Ext L H L' H' → StR C L' st' H' → VP C L' H' pv v → Q v H'
      | .exc c st' => ∀ L' H', Ext L H L' H' → StR C L' st' H' → E (.ref (C.ca c)) none H'
      | .bad => False) : AnsS X C L H r { nx := fun _ H' => Q .non H', rt := Q, bk := fun _ _ => False, ct := fun _ _ => False } := by
  unfold leave at h
  by_cases hp : d.pure = true
  · rw [if_pos hp] at h
    cases r with
    | bad => exact h
    | nx env st2 =>
      by_cases ht : st2.take st.length = st
      · simp only [if_pos ht] at h
        intro L' σ' H' e s _
        obtain ⟨s2, e2⟩ := hs.cut e s ht
        exact h L .non H' e2 s2 rfl
      · simp only [if_neg ht] at h
    | rt pv st2 =>
      cases pv with
      | f v =>
        by_cases ht : st2.take st.length = st
        · simp only [if_pos ht] at h
          intro L' w H' e s r
          obtain ⟨s2, e2⟩ := hs.cut e s ht
          exact h L w H' e2 s2 (VF.cut e r)
        · simp only [if_neg ht] at h
      | r n =>
        by_cases ht : st2.take st.length = st ∧ st.length ≤ n
        · simp only [if_pos ht] at h
          intro L' w H' e s ⟨a, ha, hw⟩
          subst hw
          obtain ⟨s2, e2⟩ := hs.cut e s ht.1
          have na := free_new hs e s ht.2 ha
          cases ho : st2[n]? with
          | none => simp only [ho] at h
          | some o =>
            obtain ⟨b, hb, hob⟩ := s.obj n o ho
            rw [ha] at hb
            cases hb
            cases o with
            | lst xs =>
              simp only [ho] at h
              cases hf : allF xs with
              | none => simp only [hf, Option.map, R.of] at h
              | some fs =>
                simp only [hf, Option.map, R.of] at h
                obtain ⟨vs, hv, rs⟩ := hob
                exact h L _ H' e2 s2 ⟨a, vs, rfl, na, hv, VFs.less (fun a ha => by
                  rcases List.mem_append.mp ha with ha | ha
                  · exact List.mem_append_left _ (e.pre.subset ha)
                  · exact List.mem_append_right _ (by rw [e.x]; exact ha)) (rs.fr hf)⟩
            | ins c xs =>
              simp only [ho] at h
              cases hf : allF xs with
              | none => simp only [hf, Option.map, R.of] at h
              | some fs =>
                simp only [hf, Option.map, R.of] at h
                obtain ⟨dx, vs, hv, hl, rs⟩ := hob
                exact h L _ H' e2 s2 ⟨a, dx, vs, rfl, na, hv, hl, VFs.less (fun a ha => by
                  rcases List.mem_append.mp ha with ha | ha
                  · exact List.mem_append_left _ (e.pre.subset ha)
                  · exact List.mem_append_right _ (by rw [e.x]; exact ha)) (rs.fr hf)⟩
            | dic xs => simp only [ho] at h
            | dit xs => simp only [ho] at h
        · simp only [if_neg ht] at h
    | exc c env st2 =>
      by_cases ht : st2.take st.length = st
      · simp only [if_pos ht] at h
        refine takes_mono' tk fun cls dd σ' H' ⟨e1, e2, L', e, s, _⟩ => ?_
        subst e1 e2
        obtain ⟨s2, e2⟩ := hs.cut e s ht
        exact h L H' e2 s2
      · simp only [if_neg ht] at h
  · rw [if_neg hp] at h
    cases r with
    | bad => exact h
    | nx env st2 => exact fun L' σ' H' e s _ => h L' .non H' e s rfl
    | rt pv st2 => exact h
    | exc c env st2 =>
      refine takes_mono' tk fun cls dd σ' H' ⟨e1, e2, L', e, s, _⟩ => ?_
      subst e1 e2
      exact h L' H' e s
end
/-! ### the table of defs -/
/-- a body's context -/
structure Good (X : Cx) (N : List Str) (sc : Scope) : Prop where
  calm : X.calm = true
  hN : X.N = N
  nd : X.N.Nodup
  sc : X.env.scope = sc
  fn : ∀ x, X.fn x = true
  own : PassesOwn (model X.prog X.w) X.A X.env X.xe
  stk : X.stack = X.env :: X.outer
  fr : X.env.frame = some X.env.locals
  ex : X.ex = []
theorem Good.tr {X : Cx} {N : List Str} {sc : Scope} (h : Good X N sc) (pn : List (Addr × PySem.Obj)) (xe : Value → Shared → Prop) (own : PassesOwn (model X.prog X.w) X.A X.env xe) : Good (X.tr pn xe) N sc :=
  ⟨h.calm, h.hN, h.nd, h.sc, h.fn, own, h.stk, h.fr, h.ex⟩
/-- a def as the text has it: its place, its names, its body in the machine -/
structure DefD (P : Program) (w : World) (K : PySem.W.Frag) (mg : Str → Option Value) (base : Heap) (C : CT) (sub : Nat → Nat → Option Bool) (W : Nat) (fac : Cx → Call → Prop) (d : Def) (tie : Tie) : Prop where
  ex : ∃ (x q : Str) (st : Stmt) (fa : Addr) (fd : FuncData) (N ps : List Str) (ds : List Value), Fun K x q st fa fd ∧ FnScope N ps (defScope st) ∧ Binds K fd ps ds ∧ N.length = d.ns ∧ ps.length = d.np ∧ tie.ok K mg C fa ds ∧
    ∀ (Γ : Call) (X : Cx), fac X Γ → Good X N (defScope st) → MB X C sub Γ W d.body (defBody st)
theorem env_start {C : CT} {L : Lay} {H : Hp} {args : List PV} {vs : List V} (r : VPs C L H args vs) (N : List Str) (d : Def) (h1 : N.length = d.ns) : EnvR C L (env0 d args) (L2.start N vs) H := by
  have hl := r.length
  unfold env0 L2.start
  refine ⟨by simp [hl, h1], fun i pv e => ?_⟩
  by_cases hi : i < args.length
  · rw [List.getElem?_append_left (by simpa using hi), List.getElem?_map] at e
    rw [List.getElem?_append_left (by simpa [hl] using hi), List.getElem?_map]
    cases ea : args[i]? with
    | none => rw [ea] at e; cases e
    | some a =>
      rw [ea] at e
      cases e
      obtain ⟨v, ev, rv⟩ := r.get ea
      exact ⟨v, by rw [ev]; rfl, rv⟩
  · rw [List.getElem?_append_right (by simpa using hi), List.getElem?_replicate] at e
    split at e <;> cases e
theorem def_step {P : Program} {w : World} {K : PySem.W.Frag} {mg : Str → Option Value} {base : Heap} {C : CT} {sub : Nat → Nat → Option Bool} {W : Nat} {prog : Nat → Option Def} {fac : Cx → Call → Prop} {f n k : Nat} {d : Def} {tie : Tie}
    (hd : prog f = some d) (D : DefD P w K mg base C sub W fac d tie) (hfac : ∀ X : Cx, X.prog = P → X.w = w → X.K = K → X.mg = mg → X.base = base → X.calm = true → Room k X.A → fac X (run sub W prog n)) :
    DefK P w K mg base C (run sub W prog (n + 1)) f (k + 1) tie := by
  obtain ⟨x, q, st, fa, fd, N, ps, ds, F, S, hb, h1, h2, ht, hbody⟩ := D.ex
  refine ⟨fa, fd, ps, ds, F.okX S (fun vs H Q E hs => ?_) (fun cdv A outer s H vs Q E hr hs => ?_), F.kp, hb, ht⟩
  · obtain ⟨args, st', L, hs', r, h⟩ := hs
    simp only [run, hd] at h
    by_cases hl : args.length = d.np
    · rw [r.length, hl, h2]
    · rw [if_neg hl] at h; exact h.elim
  · obtain ⟨args, st', L, hs', r, h⟩ := hs
    simp only [run, hd] at h
    by_cases hl : args.length = d.np
    · rw [if_pos hl] at h
      refine ⟨_, hbody _ _ (hfac _ rfl rfl rfl rfl rfl rfl hr) ⟨rfl, rfl, S.nd, rfl, fun _ => rfl, passes_of rfl, rfl, rfl, rfl⟩, env0 d args, st', L, hs', env_start r N d h1, ?_⟩
      exact leave_sound (takes_of rfl rfl rfl rfl) hs' _ h
    · rw [if_neg hl] at h; exact h.elim
/-- THE TABLE: every def keeps what the machine's run of it tells -/
theorem table {P : Program} {w : World} {K : PySem.W.Frag} {mg : Str → Option Value} {base : Heap} {C : CT} {sub : Nat → Nat → Option Bool} {W : Nat} {prog : Nat → Option Def} {tie : Nat → Tie} {fac : Cx → Call → Prop}
    (D : ∀ f d, prog f = some d → DefD P w K mg base C sub W fac d (tie f))
    (hfac : ∀ n (X : Cx), X.prog = P → X.w = w → X.K = K → X.mg = mg → X.base = base → X.calm = true → Room (2 * n + 1) X.A → (∀ f d, prog f = some d → DefK P w K mg base C (run sub W prog n) f (2 * n) (tie f)) → fac X (run sub W prog n)) :
    ∀ n f d, prog f = some d → DefK P w K mg base C (run sub W prog n) f (2 * n) (tie f)
  | 0, f, d, hd => by
    obtain ⟨x, q, st, fa, fd, N, ps, ds, F, S, hb, h1, h2, ht, hbody⟩ := (D f d hd).ex
    refine ⟨fa, fd, ps, ds, ⟨fun vs H Q E hs => ?_, fun A outer s H args us vs Q E hr he hbb hv hs => ?_⟩, F.kp, hb, ht⟩
    · obtain ⟨args, st', L, hs', r, h⟩ := hs
      exact h.elim
    · obtain ⟨args, st', L, hs', r, h⟩ := hs
      exact h.elim
  | n + 1, f, d, hd => by
    have ih := table D hfac n
    exact def_step (k := 2 * n + 1) hd (D f d hd) fun X e1 e2 e3 e4 e5 hc hr => hfac n X e1 e2 e3 e4 e5 hc hr ih
end MP

/-! the rules as they are used: the facts of a law's text, of a body, of a block -/
namespace MP
open PySem L2
/-- a law's own table: the defs, where they stand, the built-in names, the classes -/
structure Tab where
  prog : Nat → Option Def
  tie : Nat → Tie
  blts : List Str
  cn : Nat → Option Str
  sub : Nat → Nat → Option Bool
  gc : List (Str × Int)
structure Fac (T : Tab) (C : CT) (X : Cx) (Γ : Call) : Prop where
  hK : C.K = X.K
  blt : ∀ b ∈ T.blts, X.mg b = none
  dk : ∃ k, Room (k + 1) X.A ∧ ∀ f d, T.prog f = some d → DefK X.prog X.w X.K X.mg X.base C Γ f k (T.tie f)
  cf : ClsF X.K C T.sub
  cn : ∀ c x, T.cn c = some x → X.mg x = some (.ref (C.ca c))
  gc : ∀ p ∈ T.gc, ∃ tok, X.mg p.1 = some (.int p.2 tok)
  er : ∀ c x, T.cn c = some x → T.sub c c = some true → 10 ≤ c → Fk.ErrC X.K X.mg (C.ca c) x
  exm : ∀ c k, T.sub c k = some true → 10 ≤ c → PySem.W.exmOne X.K (.ref (C.ca c)) (.ref (C.ca k)) = some true
theorem Fac.hu {T : Tab} {C : CT} {X : Cx} {Γ : Call} (f : Fac T C X Γ) : X.A.units + 65 < cLine := by
  obtain ⟨k, r, _⟩ := f.dk
  have := r.un
  omega
theorem Fac.move {T : Tab} {C : CT} {X X' : Cx} {Γ : Call} (f : Fac T C X Γ) (e1 : X'.prog = X.prog) (e2 : X'.w = X.w) (e3 : X'.K = X.K) (e4 : X'.mg = X.mg) (e5 : X'.base = X.base) (e6 : X'.A = X.A) : Fac T C X' Γ :=
  ⟨by rw [e3]; exact f.hK, by rw [e4]; exact f.blt, by rw [e1, e2, e3, e4, e5, e6]; exact f.dk, by rw [e3]; exact f.cf, by rw [e4]; exact f.cn, by rw [e4]; exact f.gc, by rw [e3, e4]; exact f.er, by rw [e3]; exact f.exm⟩
/-- where a name stands: a body or a block -/
structure Lv (X : Cx) (N : List Str) (sc : Scope) : Prop where
  calm : X.calm = true
  hN : X.N = N
  nd : X.N.Nodup
  vis : ∀ n, Vis sc n → Vis X.env.scope n
  gl : ∀ n, sc.names.lookup n = some .globalImplicit → Gl X n
theorem Good.lv {X : Cx} {N : List Str} {sc : Scope} (g : Good X N sc) : Lv X N sc := ⟨g.calm, g.hN, g.nd, fun n h => by rw [g.sc]; exact h, fun n h => by show X.env.scope.names.lookup n = _; rw [g.sc]; exact h⟩
theorem Lv.blk {X X' : Cx} {N : List Str} {sc scope : Scope} (l : Lv X N sc) (b : Fk.InBlk X X' scope) : Lv X' N scope :=
  ⟨by rw [b.calm]; exact l.calm, by rw [b.N]; exact l.hN, by rw [b.N]; exact l.nd, fun n h => by rw [b.sc]; exact Fk.vis_relabel h, fun n h => b.gl h⟩
section
variable {T : Tab} {C : CT} {X : Cx} {Γ : Call} {W : Nat} {N : List Str} {sc scope : Scope} {a b c e elt : E} {es : Es} {it : IT} {s : S} {bk bt bf : Bk} {xa xb xc x xelt tg iter : Expr} {xs : List Expr} {st : Stmt} {sts sts2 : List Stmt} {pos pos' p p2 py spos apos tpos : Pos} {n n2 y : Str} {i j f k : Nat} {o : BO} {op : Operator} {d : Def} {ifs : List Expr}
def visB (sc : Scope) (n : Str) : Bool := decide (sc.names.lookup n = some .local) || (decide (sc.names.lookup n = some .cell) || decide (sc.names.lookup n = some .free))
theorem visB_ok {sc : Scope} {n : Str} (h : visB sc n = true) : Vis sc n := by
  unfold visB at h
  simp only [Bool.or_eq_true, decide_eq_true_eq] at h
  exact h
theorem rv_var (l : Lv X N sc) (hN : N[i]? = some n) (hv : visB sc n = true) (hd : (n == ("__debug__" : Str)) = false) (hcd : (n == ("__classdict__" : Str)) = false) : ME X C T.sub Γ (.v i) (.Name n pos) :=
  mv_var (by rw [l.hN]; exact hN) (l.vis n (visB_ok hv)) hd hcd
theorem rv_call (fc : Fac T C X Γ) (l : Lv X N sc) (hd : T.prog f = some d) (ht : T.tie f = .fn n) (hg : sc.names.lookup n = some .globalImplicit) (ha : MEs X C T.sub Γ es (x :: xs)) (hdb : (n == ("__debug__" : Str)) = false) (he : starEach (x :: xs) X.env = (false, eval x X.env) :: starEach xs X.env)
    (hpl : (backTo pos (starEach xs X.env)).any (·.1) = false) : ME X C T.sub Γ (.call f es) (.Call (.Name n p) (x :: xs) [] pos) := by
  obtain ⟨k, r, h⟩ := fc.dk
  have q := h f d hd
  rw [ht] at q
  exact mv_call q (r.mono (Nat.le_succ k)) (l.gl n hg) ha hdb he hpl
theorem rv_blt {bi : BI} {id : String} (fc : Fac T C X Γ) (l : Lv X N sc) (hB : BltOk X C bi (.builtin id)) (hm : n ∈ T.blts) (hg : sc.names.lookup n = some .globalImplicit) (hv : bootBuiltins n = some (.builtin id)) (ha : MEs X C T.sub Γ es (x :: xs)) (hn : n ≠ "__name__") (hdb : (n == ("__debug__" : Str)) = false)
    (he : starEach (x :: xs) X.env = (false, eval x X.env) :: starEach xs X.env) (hpl : (backTo pos (starEach xs X.env)).any (·.1) = false) : ME X C T.sub Γ (.blt bi es) (.Call (.Name n p) (x :: xs) [] pos) :=
  mv_blt hB (l.gl n hg) (fc.blt n hm) hv ha hn hdb he hpl
theorem rv_bltT {bi : BI} {id : String} (fc : Fac T C X Γ) (l : Lv X N sc) (hB : BltOk X C bi (.type id)) (hm : n ∈ T.blts) (hg : sc.names.lookup n = some .globalImplicit) (hv : bootBuiltins n = some (.type id)) (ha : MEs X C T.sub Γ es (x :: xs)) (hn : n ≠ "__name__") (hdb : (n == ("__debug__" : Str)) = false)
    (he : starEach (x :: xs) X.env = (false, eval x X.env) :: starEach xs X.env) (hpl : (backTo pos (starEach xs X.env)).any (·.1) = false) : ME X C T.sub Γ (.blt bi es) (.Call (.Name n p) (x :: xs) [] pos) :=
  mv_bltT hB (l.gl n hg) (fc.blt n hm) hv ha hn hdb he hpl
theorem rv_isiB {t : TY} {id : String} (fc : Fac T C X Γ) (l : Lv X N sc) (hm : ("isinstance" : Str) ∈ T.blts) (hg : sc.names.lookup ("isinstance" : Str) = some .globalImplicit) (ha : ME X C T.sub Γ a xa) (ht : tyOf C t = (.ty id, .type id)) (hm2 : n ∈ T.blts) (hg2 : sc.names.lookup n = some .globalImplicit) (hv : bootBuiltins n = some (.type id)) (hn : n ≠ "__name__") (hdb : (n == ("__debug__" : Str)) = false)
    (h1 : starEach [xa, .Name n p2] X.env = (false, eval xa X.env) :: starEach [.Name n p2] X.env) (h2 : starEach [.Name n p2] X.env = (false, eval (.Name n p2) X.env) :: starEach [] X.env) (hpl : (backTo pos (starEach [.Name n p2] X.env)).any (·.1) = false) :
    ME X C T.sub Γ (.isi a t) (.Call (.Name "isinstance" p) [xa, .Name n p2] [] pos) :=
  mv_isi fc.cf (l.gl _ hg) (fc.blt _ hm) ha (by rw [ht]; exact pe_bltn (l.gl n hg2) (fc.blt n hm2) hv rfl hn hdb) h1 h2 hpl
theorem rv_isiC (fc : Fac T C X Γ) (l : Lv X N sc) (hm : ("isinstance" : Str) ∈ T.blts) (hg : sc.names.lookup ("isinstance" : Str) = some .globalImplicit) (ha : ME X C T.sub Γ a xa) (hc : T.cn k = some n) (hg2 : sc.names.lookup n = some .globalImplicit) (hdb : (n == ("__debug__" : Str)) = false)
    (h1 : starEach [xa, .Name n p2] X.env = (false, eval xa X.env) :: starEach [.Name n p2] X.env) (h2 : starEach [.Name n p2] X.env = (false, eval (.Name n p2) X.env) :: starEach [] X.env) (hpl : (backTo pos (starEach [.Name n p2] X.env)).any (·.1) = false) :
    ME X C T.sub Γ (.isi a (.cls k)) (.Call (.Name "isinstance" p) [xa, .Name n p2] [] pos) :=
  mv_isi fc.cf (l.gl _ hg) (fc.blt _ hm) ha (pe_glob (v := .ref (C.ca k)) (l.gl n hg2) (fc.cn k n hc) rfl hdb) h1 h2 hpl
theorem evEs_len : ∀ (n : Nat) {es : Es} {env : Env} {st : Store} {vs : List PV} {st' : Store}, Es.len es = n → evEs T.sub Γ es env st = .ok vs st' → vs.length = n
  | n, .nil, env, st, vs, st', hn, e => by
    simp only [evEs] at e
    cases e
    exact hn
  | 0, .cons e' es, _, _, _, _, hn, _ => by simp [Es.len] at hn
  | n + 1, .cons e' es, env, st, vs, st', hn, e => by
    simp only [evEs] at e
    cases h1 : evE T.sub Γ e' env st with
    | bad => rw [h1] at e; cases e
    | exc c s => rw [h1] at e; cases e
    | ok v st1 =>
      rw [h1] at e
      simp only [R.bind] at e
      cases h2 : evEs T.sub Γ es env st1 with
      | bad => rw [h2] at e; cases e
      | exc c s => rw [h2] at e; cases e
      | ok ws st2 =>
        rw [h2] at e
        cases e
        have ih := evEs_len n (es := es) (by simpa [Es.len] using hn) h2
        simp [ih]
theorem rv_tup {k : Nat} (h : MEs X C T.sub Γ es xs) (hl : decide (es.len ≤ 1000) = true) : ME X C T.sub Γ (.tup es) (.Tuple xs k pos) :=
  mv_tup h fun _ _ _ _ e => by rw [evEs_len _ rfl e]; exact of_decide_eq_true hl
theorem rv_lst (h : MEs X C T.sub Γ es xs) (hl : decide (es.len ≤ 1000) = true) : ME X C T.sub Γ (.lst es) (.List xs pos) :=
  mv_lst h fun _ _ _ _ e => by rw [evEs_len _ rfl e]; exact of_decide_eq_true hl
theorem rv_mlst (h : MEs X C T.sub Γ es xs) (hl : decide (es.len ≤ 1000) = true) : ME X C T.sub Γ (.mlst es) (.List xs pos) :=
  mv_mlst h fun _ _ _ _ e => by rw [evEs_len _ rfl e]; exact of_decide_eq_true hl
theorem rv_ix (fc : Fac T C X Γ) (ha : ME X C T.sub Γ a xa) (hi : ME X C T.sub Γ b xb) (hs : PlainIx xb) : ME X C T.sub Γ (.ix a b) (.Subscript xa xb pos) := mv_ix fc.hK ha hi hs
theorem rv_glob {g : FV} {v : V} {u : Value} (l : Lv X N sc) (hm : X.mg n = some u) (r : RelV v u) (hg : sc.names.lookup n = some .globalImplicit) (hf : ∀ Y H, VF C Y H g v) (hdb : (n == ("__debug__" : Str)) = false) : ME X C T.sub Γ (.k g) (.Name n pos) := mv_k (pe_glob (l.gl n hg) hm r hdb) hf
theorem rv_gc {v : Int} (fc : Fac T C X Γ) (l : Lv X N sc) (hm : (n, v) ∈ T.gc) (hg : sc.names.lookup n = some .globalImplicit) (hdb : (n == ("__debug__" : Str)) = false) : ME X C T.sub Γ (.k (.int v)) (.Name n pos) := by
  obtain ⟨tok, e⟩ := fc.gc _ hm
  exact rv_glob (g := .int v) (v := .int v) l e ⟨_, rfl⟩ hg (fun _ _ => rfl) hdb
/-! operators -/
theorem r_eq (fc : Fac T C X Γ) : CopOk X C .eq .Eq := cop_eq (by have := fc.hu; omega)
theorem r_ne (fc : Fac T C X Γ) : CopOk X C .ne .NotEq := cop_ne (by have := fc.hu; omega)
theorem r_in (fc : Fac T C X Γ) : CopOk X C .isin .In := cop_in fc.hu
theorem r_notin (fc : Fac T C X Γ) : CopOk X C .notin .NotIn := cop_notin fc.hu
theorem r_add (fc : Fac T C X Γ) : BopOk X C .add .Add := bop_add fc.hK
theorem r_len (fc : Fac T C X Γ) : BltOk X C .len (.builtin "len") := blt_len fc.hK
theorem r_max (fc : Fac T C X Γ) (l : Lv X N sc) : BltOk X C .max (.builtin "max") := blt_max l.calm fc.hu
theorem r_min (l : Lv X N sc) : BltOk X C .min (.builtin "min") := blt_min l.calm
theorem r_all (l : Lv X N sc) : BltOk X C .all (.builtin "all") := blt_all l.calm
/-! built-in functions by their names -/
theorem rv_len (fc : Fac T C X Γ) (l : Lv X N sc) (hm : ("len" : Str) ∈ T.blts) (hg : sc.names.lookup ("len" : Str) = some .globalImplicit) (ha : MEs X C T.sub Γ es (x :: xs)) (he : starEach (x :: xs) X.env = (false, eval x X.env) :: starEach xs X.env) (hpl : (backTo pos (starEach xs X.env)).any (·.1) = false) : ME X C T.sub Γ (.blt .len es) (.Call (.Name "len" p) (x :: xs) [] pos) :=
  rv_blt fc l (r_len fc) hm hg (by decide +kernel) ha (by decide) (by decide) he hpl
theorem rv_max (fc : Fac T C X Γ) (l : Lv X N sc) (hm : ("max" : Str) ∈ T.blts) (hg : sc.names.lookup ("max" : Str) = some .globalImplicit) (ha : MEs X C T.sub Γ es (x :: xs)) (he : starEach (x :: xs) X.env = (false, eval x X.env) :: starEach xs X.env) (hpl : (backTo pos (starEach xs X.env)).any (·.1) = false) : ME X C T.sub Γ (.blt .max es) (.Call (.Name "max" p) (x :: xs) [] pos) :=
  rv_blt fc l (r_max fc l) hm hg (by decide +kernel) ha (by decide) (by decide) he hpl
theorem rv_min (fc : Fac T C X Γ) (l : Lv X N sc) (hm : ("min" : Str) ∈ T.blts) (hg : sc.names.lookup ("min" : Str) = some .globalImplicit) (ha : MEs X C T.sub Γ es (x :: xs)) (he : starEach (x :: xs) X.env = (false, eval x X.env) :: starEach xs X.env) (hpl : (backTo pos (starEach xs X.env)).any (·.1) = false) : ME X C T.sub Γ (.blt .min es) (.Call (.Name "min" p) (x :: xs) [] pos) :=
  rv_blt fc l (r_min l) hm hg (by decide +kernel) ha (by decide) (by decide) he hpl
theorem rv_all (fc : Fac T C X Γ) (l : Lv X N sc) (hm : ("all" : Str) ∈ T.blts) (hg : sc.names.lookup ("all" : Str) = some .globalImplicit) (ha : MEs X C T.sub Γ es (x :: xs)) (he : starEach (x :: xs) X.env = (false, eval x X.env) :: starEach xs X.env) (hpl : (backTo pos (starEach xs X.env)).any (·.1) = false) : ME X C T.sub Γ (.blt .all es) (.Call (.Name "all" p) (x :: xs) [] pos) :=
  rv_blt fc l (r_all l) hm hg (by decide +kernel) ha (by decide) (by decide) he hpl
theorem rv_int (fc : Fac T C X Γ) (l : Lv X N sc) (hm : ("int" : Str) ∈ T.blts) (hg : sc.names.lookup ("int" : Str) = some .globalImplicit) (ha : MEs X C T.sub Γ es (x :: xs)) (he : starEach (x :: xs) X.env = (false, eval x X.env) :: starEach xs X.env) (hpl : (backTo pos (starEach xs X.env)).any (·.1) = false) : ME X C T.sub Γ (.blt .int es) (.Call (.Name "int" p) (x :: xs) [] pos) :=
  rv_bltT fc l (blt_int) hm hg (by decide +kernel) ha (by decide) (by decide) he hpl
theorem rv_tuple (fc : Fac T C X Γ) (l : Lv X N sc) (hm : ("tuple" : Str) ∈ T.blts) (hg : sc.names.lookup ("tuple" : Str) = some .globalImplicit) (ha : MEs X C T.sub Γ es (x :: xs)) (he : starEach (x :: xs) X.env = (false, eval x X.env) :: starEach xs X.env) (hpl : (backTo pos (starEach xs X.env)).any (·.1) = false) : ME X C T.sub Γ (.blt .tuple es) (.Call (.Name "tuple" p) (x :: xs) [] pos) :=
  rv_bltT fc l (blt_tuple) hm hg (by decide +kernel) ha (by decide) (by decide) he hpl
theorem rv_list (fc : Fac T C X Γ) (l : Lv X N sc) (hm : ("list" : Str) ∈ T.blts) (hg : sc.names.lookup ("list" : Str) = some .globalImplicit) (ha : MEs X C T.sub Γ es (x :: xs)) (he : starEach (x :: xs) X.env = (false, eval x X.env) :: starEach xs X.env) (hpl : (backTo pos (starEach xs X.env)).any (·.1) = false) : ME X C T.sub Γ (.blt .list es) (.Call (.Name "list" p) (x :: xs) [] pos) :=
  rv_bltT fc l (blt_list) hm hg (by decide +kernel) ha (by decide) (by decide) he hpl
/-! what is walked -/
theorem ri_seq (fc : Fac T C X Γ) (ha : ME X C T.sub Γ a iter) : MI X C T.sub Γ (.seq a) tg iter := mi_seq fc.hK ha
theorem ri_range (fc : Fac T C X Γ) (l : Lv X N sc) (ha : ME X C T.sub Γ a xa) (hm : ("range" : Str) ∈ T.blts) (hg : sc.names.lookup ("range" : Str) = some .globalImplicit) (hs : starEach [xa] X.env = [(false, eval xa X.env)]) (hs2 : starEach (xa :: []) X.env = (false, eval xa X.env) :: starEach [] X.env) :
    MI X C T.sub Γ (.range a) tg (.Call (.Name "range" p) [xa] [] pos) := mi_range ha (fc.blt _ hm) (l.gl _ hg) hs hs2
theorem ri_enum {elts : List Expr} {kk : Nat} (fc : Fac T C X Γ) (l : Lv X N sc) (ha : ME X C T.sub Γ a xa) (hm : ("enumerate" : Str) ∈ T.blts) (hg : sc.names.lookup ("enumerate" : Str) = some .globalImplicit) (hs : starEach [xa] X.env = [(false, eval xa X.env)]) (hs2 : starEach (xa :: []) X.env = (false, eval xa X.env) :: starEach [] X.env) :
    MI X C T.sub Γ (.enum a) (.Tuple elts kk tpos) (.Call (.Name "enumerate" p) [xa] [] pos) := mi_enum fc.hK ha (fc.blt _ hm) (l.gl _ hg) hs hs2
theorem ri_zip {elts : List Expr} {kk : Nat} (fc : Fac T C X Γ) (l : Lv X N sc) (ha : ME X C T.sub Γ a xa) (hb : ME X C T.sub Γ b xb) (hm : ("zip" : Str) ∈ T.blts) (hg : sc.names.lookup ("zip" : Str) = some .globalImplicit) (h1 : starEach (xa :: [xb]) X.env = (false, eval xa X.env) :: starEach [xb] X.env) (h2 : starEach (xb :: []) X.env = (false, eval xb X.env) :: starEach [] X.env)
    (hpl : (backTo pos (starEach [xb] X.env)).any (·.1) = false) : MI X C T.sub Γ (.zip a b) (.Tuple elts kk tpos) (.Call (.Name "zip" p) [xa, xb] [] pos) := mi_zip ha hb (fc.blt _ hm) (l.gl _ hg) h1 h2 hpl
theorem ri_zipN (fc : Fac T C X Γ) (l : Lv X N sc) (ha : ME X C T.sub Γ a xa) (hb : ME X C T.sub Γ b xb) (hm : ("zip" : Str) ∈ T.blts) (hg : sc.names.lookup ("zip" : Str) = some .globalImplicit) (h1 : starEach (xa :: [xb]) X.env = (false, eval xa X.env) :: starEach [xb] X.env) (h2 : starEach (xb :: []) X.env = (false, eval xb X.env) :: starEach [] X.env)
    (hpl : (backTo pos (starEach [xb] X.env)).any (·.1) = false) : MI X C T.sub Γ (.zip a b) (.Name n p2) (.Call (.Name "zip" p) [xa, xb] [] pos) := mi_zipN ha hb (fc.blt _ hm) (l.gl _ hg) h1 h2 hpl
/-! targets -/
theorem sto_of (g : Good X N sc) (h : sc.names.lookup n = some .local ∨ sc.names.lookup n = some .cell) : Fk.Sto X n := ⟨by rw [g.sc]; exact h, .inl (g.fn n)⟩
theorem rg_name (g : Good X N sc) (h : sc.names.lookup n = some .local ∨ sc.names.lookup n = some .cell) (hi : N[i]? = some n) : MG X C [i] (.Name n pos) := mg_name (sto_of g h) g.nd (by rw [g.hN]; exact hi)
theorem rg_tup2 {k : Nat} (g : Good X N sc) (h1 : sc.names.lookup n = some .local ∨ sc.names.lookup n = some .cell) (h2 : sc.names.lookup n2 = some .local ∨ sc.names.lookup n2 = some .cell) (hi : N[i]? = some n) (hj : N[j]? = some n2) : MG X C [i, j] (.Tuple [.Name n p, .Name n2 p2] k pos) :=
  mg_tup2 g.calm (sto_of g h1) (sto_of g h2) g.nd (by rw [g.hN]; exact hi) (by rw [g.hN]; exact hj) rfl rfl rfl rfl
theorem rg_nameB {X' : Cx} (l : Lv X N sc) (b : Fk.InBlk X X' scope) (h : scope.names.lookup n = some .local) (hi : N[i]? = some n) : MG X' C [i] (.Name n pos) := mg_name (b.sto h) (by rw [b.N]; exact l.nd) (by rw [b.N, l.hN]; exact hi)
theorem rg_tup2B {X' : Cx} {k : Nat} (l : Lv X N sc) (b : Fk.InBlk X X' scope) (h1 : scope.names.lookup n = some .local) (h2 : scope.names.lookup n2 = some .local) (hi : N[i]? = some n) (hj : N[j]? = some n2) : MG X' C [i, j] (.Tuple [.Name n p, .Name n2 p2] k pos) :=
  mg_tup2 (by rw [b.calm]; exact l.calm) (b.sto h1) (b.sto h2) (by rw [b.N]; exact l.nd) (by rw [b.N, l.hN]; exact hi) (by rw [b.N, l.hN]; exact hj) rfl rfl rfl rfl
/-! comprehensions -/
theorem Fac.blk {X' : Cx} (fc : Fac T C X Γ) (b : Fk.InBlk X X' scope) : Fac T C X' Γ := fc.move b.prog b.w b.K b.mg b.base b.A
theorem rv_lc (g : Good X N sc) (fc : Fac T C X Γ) (hi : MI X C T.sub Γ it (.Name n p) iter) (ok : Fk.blkB N sc scope [(n, i)] = true) (hn : scope.names.lookup n = some .local) (hN : N[i]? = some n) (he : ∀ X', Lv X' N scope → Fac T C X' Γ → ME X' C T.sub Γ elt xelt) (hs : ∀ x, foldedSetIterable iter X.env x = pure x) :
    ME X C T.sub Γ (.lc elt [i] it) (.ListComp xelt [⟨.Name n p, iter, [], 0⟩] scope pos) :=
  mv_lc (own := [(n, i)]) g.calm g.nd hi (Fk.blk_of g.hN g.sc ok) rfl (fun X' b => rg_nameB g.lv b hn hN) (fun X' b => he X' (g.lv.blk b) (fc.blk b)) hs
theorem rv_lc2 {kk : Nat} (g : Good X N sc) (fc : Fac T C X Γ) (hi : MI X C T.sub Γ it (.Tuple [.Name n p, .Name n2 p2] kk tpos) iter) (ok : Fk.blkB N sc scope [(n, i), (n2, j)] = true) (hn : scope.names.lookup n = some .local) (hn2 : scope.names.lookup n2 = some .local) (hN : N[i]? = some n) (hN2 : N[j]? = some n2) (he : ∀ X', Lv X' N scope → Fac T C X' Γ → ME X' C T.sub Γ elt xelt) (hs : ∀ x, foldedSetIterable iter X.env x = pure x) :
    ME X C T.sub Γ (.lc elt [i, j] it) (.ListComp xelt [⟨.Tuple [.Name n p, .Name n2 p2] kk tpos, iter, [], 0⟩] scope pos) :=
  mv_lc (own := [(n, i), (n2, j)]) g.calm g.nd hi (Fk.blk_of g.hN g.sc ok) rfl (fun X' b => rg_tup2B g.lv b hn hn2 hN hN2) (fun X' b => he X' (g.lv.blk b) (fc.blk b)) hs
theorem rv_lcIf (g : Good X N sc) (fc : Fac T C X Γ) (hi : MI X C T.sub Γ it (.Name n p) iter) (ok : Fk.blkB N sc scope [(n, i)] = true) (hn : scope.names.lookup n = some .local) (hN : N[i]? = some n) (ht : ∀ X', Lv X' N scope → Fac T C X' Γ → MT X' C T.sub Γ c xc) (he : ∀ X', Lv X' N scope → Fac T C X' Γ → ME X' C T.sub Γ elt xelt) (hs : ∀ x, foldedSetIterable iter X.env x = pure x) :
    ME X C T.sub Γ (.lcIf elt [i] it c) (.ListComp xelt [⟨.Name n p, iter, [xc], 0⟩] scope pos) :=
  mv_lcIf (own := [(n, i)]) g.calm g.nd hi (Fk.blk_of g.hN g.sc ok) rfl (fun X' b => rg_nameB g.lv b hn hN) (fun X' b => ht X' (g.lv.blk b) (fc.blk b)) (fun X' b => he X' (g.lv.blk b) (fc.blk b)) hs
theorem rv_lcIf2 {kk : Nat} (g : Good X N sc) (fc : Fac T C X Γ) (hi : MI X C T.sub Γ it (.Tuple [.Name n p, .Name n2 p2] kk tpos) iter) (ok : Fk.blkB N sc scope [(n, i), (n2, j)] = true) (hn : scope.names.lookup n = some .local) (hn2 : scope.names.lookup n2 = some .local) (hN : N[i]? = some n) (hN2 : N[j]? = some n2) (ht : ∀ X', Lv X' N scope → Fac T C X' Γ → MT X' C T.sub Γ c xc) (he : ∀ X', Lv X' N scope → Fac T C X' Γ → ME X' C T.sub Γ elt xelt) (hs : ∀ x, foldedSetIterable iter X.env x = pure x) :
    ME X C T.sub Γ (.lcIf elt [i, j] it c) (.ListComp xelt [⟨.Tuple [.Name n p, .Name n2 p2] kk tpos, iter, [xc], 0⟩] scope pos) :=
  mv_lcIf (own := [(n, i), (n2, j)]) g.calm g.nd hi (Fk.blk_of g.hN g.sc ok) rfl (fun X' b => rg_tup2B g.lv b hn hn2 hN hN2) (fun X' b => ht X' (g.lv.blk b) (fc.blk b)) (fun X' b => he X' (g.lv.blk b) (fc.blk b)) hs
theorem sw_ok (g : Good X N sc) (hkd : sc.kind = .function) (hyl : sc.names.lookup y = some .local) (hln : (py.line == pos.line) = true) (hany : (scope.names.any fun (n, k) => n == y && (k == .local || k == .cell)) = false) {gens : List Comprehension} :
    swapsWith (.ListComp xelt gens scope pos) (some (.Name y py)) spos.line X.env = pure true := sw_true (by rw [g.sc]; exact hkd) (by rw [g.sc]; exact hyl) hln hany
theorem rs_setLc (g : Good X N sc) (fc : Fac T C X Γ) (hj : N[j]? = some y) (hyl : sc.names.lookup y = some .local) (hi : MI X C T.sub Γ it (.Name n p) iter) (ok : Fk.blkB N sc scope [(n, i)] = true) (hn : scope.names.lookup n = some .local) (hN : N[i]? = some n) (he : ∀ X', Lv X' N scope → Fac T C X' Γ → ME X' C T.sub Γ elt xelt) (hs : ∀ x, foldedSetIterable iter X.env x = pure x)
    (hkd : sc.kind = .function) (hln : (py.line == pos.line) = true) (hany : (scope.names.any fun (n, k) => n == y && (k == .local || k == .cell)) = false) : MS X C T.sub Γ W (.set j (.lc elt [i] it)) (.Assign [.Name y py] (.ListComp xelt [⟨.Name n p, iter, [], 0⟩] scope pos) spos) :=
  ms_setLc (own := [(n, i)]) g.nd (by rw [g.hN]; exact hj) (by rw [g.sc]; exact hyl) g.calm hi (Fk.blk_of g.hN g.sc ok) rfl (fun X' b => rg_nameB g.lv b hn hN) (fun X' b => he X' (g.lv.blk b) (fc.blk b)) hs (sw_ok g hkd hyl hln hany)
theorem rs_setLc2 {kk : Nat} (g : Good X N sc) (fc : Fac T C X Γ) {l : Nat} (hj : N[l]? = some y) (hyl : sc.names.lookup y = some .local) (hi : MI X C T.sub Γ it (.Tuple [.Name n p, .Name n2 p2] kk tpos) iter) (ok : Fk.blkB N sc scope [(n, i), (n2, j)] = true) (hn : scope.names.lookup n = some .local) (hn2 : scope.names.lookup n2 = some .local) (hN : N[i]? = some n) (hN2 : N[j]? = some n2) (he : ∀ X', Lv X' N scope → Fac T C X' Γ → ME X' C T.sub Γ elt xelt) (hs : ∀ x, foldedSetIterable iter X.env x = pure x)
    (hkd : sc.kind = .function) (hln : (py.line == pos.line) = true) (hany : (scope.names.any fun (n, k) => n == y && (k == .local || k == .cell)) = false) : MS X C T.sub Γ W (.set l (.lc elt [i, j] it)) (.Assign [.Name y py] (.ListComp xelt [⟨.Tuple [.Name n p, .Name n2 p2] kk tpos, iter, [], 0⟩] scope pos) spos) :=
  ms_setLc (own := [(n, i), (n2, j)]) g.nd (by rw [g.hN]; exact hj) (by rw [g.sc]; exact hyl) g.calm hi (Fk.blk_of g.hN g.sc ok) rfl (fun X' b => rg_tup2B g.lv b hn hn2 hN hN2) (fun X' b => he X' (g.lv.blk b) (fc.blk b)) hs (sw_ok g hkd hyl hln hany)
theorem rs_setLcIf (g : Good X N sc) (fc : Fac T C X Γ) (hj : N[j]? = some y) (hyl : sc.names.lookup y = some .local) (hi : MI X C T.sub Γ it (.Name n p) iter) (ok : Fk.blkB N sc scope [(n, i)] = true) (hn : scope.names.lookup n = some .local) (hN : N[i]? = some n) (ht : ∀ X', Lv X' N scope → Fac T C X' Γ → MT X' C T.sub Γ c xc) (he : ∀ X', Lv X' N scope → Fac T C X' Γ → ME X' C T.sub Γ elt xelt) (hs : ∀ x, foldedSetIterable iter X.env x = pure x)
    (hkd : sc.kind = .function) (hln : (py.line == pos.line) = true) (hany : (scope.names.any fun (n, k) => n == y && (k == .local || k == .cell)) = false) : MS X C T.sub Γ W (.set j (.lcIf elt [i] it c)) (.Assign [.Name y py] (.ListComp xelt [⟨.Name n p, iter, [xc], 0⟩] scope pos) spos) :=
  ms_setLcIf (own := [(n, i)]) g.nd (by rw [g.hN]; exact hj) (by rw [g.sc]; exact hyl) g.calm hi (Fk.blk_of g.hN g.sc ok) rfl (fun X' b => rg_nameB g.lv b hn hN) (fun X' b => ht X' (g.lv.blk b) (fc.blk b)) (fun X' b => he X' (g.lv.blk b) (fc.blk b)) hs (sw_ok g hkd hyl hln hany)
/-! statements -/
theorem sw_off {env : PySem.Env} {n n2 : Str} {px py pt : Pos} {kt : Nat} {v : Expr} (h : env.scope.names.lookup n = some .cell ∨ env.scope.names.lookup n2 = some .cell) : swappedStores [.Tuple [.Name n px, .Name n2 py] kt pt] v env = pure none := by
  have hk : env.kindOf n = some .cell ∨ env.kindOf n2 = some .cell := h
  unfold swappedStores
  cases v with
  | Tuple vs k p =>
    simp only [List.length_cons, List.length_nil]
    split
    · rfl
    · split
      · rfl
      · rcases hk with hk | hk
        · by_cases q : env.kindOf n2 == some .local <;> by_cases q2 : py.line == px.line <;> simp [List.filterMap, hk, q, q2, Expr.pos]
        · by_cases q : env.kindOf n == some .local <;> simp [List.filterMap, hk, q, Expr.pos]
  | _ => rfl
theorem sw_fold {env : PySem.Env} {ts vs : List Expr} {kt k : Nat} {pt p : Pos} (h : vs.all (foldedForSure 8) = true) : swappedStores [.Tuple ts kt pt] (.Tuple vs k p) env = pure none := by
  unfold swappedStores
  simp only [h]
  split
  · rfl
  · split
    · rfl
    · split
      · rfl
      · rfl
theorem rs_set (g : Good X N sc) (hN : N[i]? = some n) (hx : sc.names.lookup n = some .local ∨ sc.names.lookup n = some .cell) (h : ME X C T.sub Γ e x) (hs : swapsWith x (some (.Name n pos')) pos.line X.env = pure false) : MS X C T.sub Γ W (.set i e) (.Assign [.Name n pos'] x pos) :=
  ms_set g.nd (by rw [g.hN]; exact hN) (by rw [g.sc]; exact hx) (.inl (g.fn n)) h hs
theorem rs_par {px pt : Pos} {kt k2 : Nat} {pt2 : Pos} (g : Good X N sc) (hi : N[i]? = some n) (hj : N[j]? = some n2) (hij : i ≠ j) (hx : sc.names.lookup n = some .local) (hy : sc.names.lookup n2 = some .local)
    (ha : ME X C T.sub Γ a xa) (hb : ME X C T.sub Γ b xb) (h1 : starEach (xa :: [xb]) X.env = (false, eval xa X.env) :: starEach [xb] X.env) (h2 : starEach (xb :: []) X.env = (false, eval xb X.env) :: starEach [] X.env)
    (hs : swapsWithSole [.Tuple [.Name n px, .Name n2 py] kt pt] (.Tuple [xa, xb] k2 pt2) pos.line X.env = pure false) (hstar : swappedStores [.Tuple [.Name n px, .Name n2 py] kt pt] (.Tuple [xa, xb] k2 pt2) X.env = pure (some [n, n2])) :
    MS X C T.sub Γ W (.par i j a b) (.Assign [.Tuple [.Name n px, .Name n2 py] kt pt] (.Tuple [xa, xb] k2 pt2) pos) :=
  ms_par g.calm g.nd (by rw [g.hN]; exact hi) (by rw [g.hN]; exact hj) hij (by rw [g.sc]; exact hx) (by rw [g.sc]; exact hy) ha hb h1 h2 hstar hs
theorem rs_while (g : Good X N sc) (hc : MT X C T.sub Γ c xc) (hb : MB X C T.sub Γ W bk sts) : MS X C T.sub Γ W (.whl c bk) (.While xc sts [] pos) := ms_while g.own hc hb
theorem rs_for {tgs : List Nat} (g : Good X N sc) (hi : MI X C T.sub Γ it tg iter) (hg : MG X C tgs tg) (hb : MB X C T.sub Γ W bk sts) (hs : ∀ x, foldedSetIterable iter X.env x = pure x) : MS X C T.sub Γ W (.fors tgs it bk) (.For tg iter sts [] pos) := ms_for g.own g.calm hi hg hb hs
theorem rs_raise {k : Nat} {m : Str} {rpos : Pos} (g : Good X N sc) (fc : Fac T C X Γ) (hc : T.cn k = some n) (hs : T.sub k k = some true) (hk : decide (10 ≤ k) = true) (hg : sc.names.lookup n = some .globalImplicit) (hdb : (n == ("__debug__" : Str)) = false) : MS X C T.sub Γ W (.raise k) (.Raise (some (.Call (.Name n p) [.Constant (.str m) j p2] [] pos)) none rpos) :=
  ms_raise g.calm (fc.er k n hc hs (of_decide_eq_true hk)) (g.lv.gl n hg) hdb
theorem rs_try {np pn' : Pos} {x0 : Str} {body : List Stmt} (g : Good X N sc) (fc : Fac T C X Γ) (hi : N[i]? = some n) (hj : N[j]? = some y) (hij : i ≠ j) (hln : sc.names.lookup n = some .local) (hly : sc.names.lookup y = some .local) (hnd : (n == ("__debug__" : Str)) = false) (hncd : (n == ("__classdict__" : Str)) = false)
    (hc : T.cn k = some x0) (hg : sc.names.lookup x0 = some .globalImplicit) (hdb : (x0 == ("__debug__" : Str)) = false) (hsub : ∀ c, T.sub c k = some true → 10 ≤ c) (hb : ∀ X', Good X' N sc → Fac T C X' Γ → MB X' C T.sub Γ W bk body) :
    MS X C T.sub Γ W (.tryKeep bk k j i) (.Try body [.ExceptHandler (some (.Name x0 np)) (some n) [.Assign [.Name y py] (.Name n pn') apos] pos'] [] [] pos) :=
  ms_try g.ex g.stk g.fr g.nd (by rw [g.hN]; exact hi) (by rw [g.hN]; exact hj) hij (by show X.env.scope.names.lookup n = _; rw [g.sc]; exact hln) (by rw [g.sc]; exact hly) hnd hncd ⟨g.lv.gl _ hg, hdb, .inl (fc.cn k x0 hc)⟩ (fun c h => fc.exm c k h (hsub c h))
    (fun pn xe own => hb _ (g.tr pn xe own) (fc.move rfl rfl rfl rfl rfl rfl))
end
end MP

namespace MP
open PySem L2
/-- a plain def of the module -/
theorem dd_fn {P : Program} {w : World} {K : PySem.W.Frag} {mg : Str → Option Value} {base : Heap} {T : Tab} {C : CT} {W : Nat} {x : Str} {st : Stmt} {d : Def} {N ps : List Str} (F : Fk.DefAt K mg x st) (S : FnScope N ps (defScope st))
    (hb : ∀ (kV doc pm : Value) (an : Option Addr) (cdv ct : Value) (us : List Value), us.length = ps.length → bindArgs (PySem.W.fnOf x x (defArgs st) (defBody st) (defScope st) .none kV doc pm an cdv ct) ⟨us, []⟩ = pure (ps.zip us)) (h1 : N.length = d.ns) (h2 : ps.length = d.np)
    (body : ∀ (Γ : Call) (X : Cx), Fac T C X Γ → Good X N (defScope st) → MB X C T.sub Γ W d.body (defBody st)) : DefD P w K mg base C T.sub W (Fac T C) d (.fn x) := by
  obtain ⟨f, fd, F, hm⟩ := F.ex
  exact ⟨x, x, st, f, fd, N, ps, [], F, S, F.binds hb, h1, h2, ⟨hm, rfl⟩, body⟩
/-- a statement that appends -/
theorem ms_app {X : Cx} {C : CT} {sub : Nat → Nat → Option Bool} {Γ : Call} {W : Nat} {a b : E} {xa xb : Expr} {pos cpos apos : Pos} (ha : ME X C sub Γ a xa) (hb : ME X C sub Γ b xb) (hbase : attributeBase xa "append" X.env (eval xa X.env) = eval xa X.env := by rfl)
    (hfew : ((backTo cpos (starEach (xb :: []) X.env)).all (fun x => !x.1) && (backToKw cpos (keywordEach [] X.env)).all (fun x => x.1.isSome)
      && decide ((xb :: []).length + ([] : List Keyword).length + (if ([] : List Keyword).isEmpty then 0 else 1) < 30)) = true := by rfl)
    (hline : (apos.endLine == cpos.line) = true := by rfl) (hs : starEach (xb :: []) X.env = (false, eval xb X.env) :: starEach [] X.env := by rfl) (hplain : (backTo cpos (starEach [] X.env)).any (·.1) = false := by rfl)
    (hsw : swapsWith (.Call (.Attribute xa "append" apos) [xb] [] cpos) none pos.line X.env = pure false := by rfl) : MS X C sub Γ W (.app a b) (.Expr (.Call (.Attribute xa "append" apos) [xb] [] cpos) pos) := by
  refine Fk.PS_imp (ps_expr (pe_bm PySem.F.plainAttrs_list PySem.F.slot_list_append PySem.F.type_list_append mt_append ha (pa_cons hb pa_nil hs) hbase hfew hline hs hplain) hsw) fun D σ H ⟨env, st, L, hs, he, h⟩ => ?_
  simp only [exS] at h
  refine ⟨env, st, L, hs, he, h.s he fun pa st1 L1 v H1 _ e1 s1 r1 h1 => ?_⟩
  split at h1
  · rename_i hl
    cases pa with
    | f f => cases hl
    | r n =>
      simp only [isLst] at hl
      split at hl
      · rename_i xs ho
        obtain ⟨l, hl1, rfl⟩ := r1
        obtain ⟨l', hl2, vs, hv, rs⟩ := s1.obj n _ ho
        rw [hl1] at hl2
        cases hl2
        refine ⟨Or.inl ⟨rfl, vs, SqL.of hv⟩, env, st1, L1, s1, he.ext e1, h1.s (he.ext e1) fun w st2 L2 u H2 hev e2 s2 ru h2 => ?_⟩
        obtain ⟨st3, hz, h3⟩ := of_ofS h2
        simp only [appS] at hz
        split at hz
        · rename_i ys hy
          obtain ⟨hc, rfl⟩ := g_some hz
          have hc := of_decide_eq_true hc
          obtain ⟨l2, hm2, us, hu, rs2⟩ := s2.obj n _ hy
          have hm : L2.m[n]? = some l := by
            obtain ⟨t, ht⟩ := e2.pre
            rw [← ht, List.getElem?_append_left (List.getElem?_eq_some_iff.mp hl1).1]
            exact hl1
          rw [hm] at hm2
          cases hm2
          have ex := s2.extU (u := .lst (us ++ [u])) hm
          refine ⟨l, us, u, rfl, rfl, hu, by rw [rs2.length]; exact Nat.lt_of_lt_of_le hc (by decide), ?_⟩
          exact (h3.ext ex).nx (s2.upd hm ⟨_, upd_same, (rs2.ext ex).append ⟨u, [], rfl, VP.ext ex ru, rfl⟩⟩) ((he.ext (e1.trans e2)).ext ex)
        · cases hz
      · cases hl
  · exact h1.elim
end MP

/-! the end -/
namespace MP
open PySem L2
def flc : Nat → List Str
  | 0 => ["own", "told"]
  | 1 => ["held", "turn"]
  | 2 => ["row", "at"]
  | _ => []
section
variable {K : PySem.W.Frag} {c d : Addr} {b : Bool}
theorem kit_cls (h1 : PySem.W.isClsIn K d = true) (h2 : PySem.W.typeIn K (.ref d) = some (.type "type")) (h3 : PySem.W.subIn K (.ref c) (.ref d) = some b) : PySem.W.kitCls K (.ref c) (.ref d) = some b := by
  have e : ((PySem.W.clsIn K d).isSome && PySem.W.typeIn K (.ref d) == some (.type "type")) = true := by
    have h1' : (PySem.W.clsIn K d).isSome = true := h1
    rw [h1', h2]
    rfl
  show (if _ then PySem.W.subIn K (.ref c) (.ref d) else none) = _
  rw [if_pos e]
  exact h3
theorem kit_sub (h1 : PySem.W.isClsIn K d = true) (h2 : PySem.W.typeIn K (.ref d) = some (.type "type")) (h0 : PySem.W.subIn K (.ref c) (.ref c) = some true) (h3 : PySem.W.subIn K (.ref c) (.ref d) = some b) : PySem.W.kitOne K (.ref c) (.ref d) = some b := by
  by_cases e : c = d
  · subst e
    rw [h0] at h3
    cases h3
    show (if ((Value.ref c) == (Value.ref c)) = true then some true else _) = _
    rw [if_pos (by simp)]
  · show (if ((Value.ref c) == (Value.ref d)) = true then some true else _) = _
    rw [if_neg (by simp [e])]
    exact kit_cls h1 h2 h3
theorem kit_ve (h : PySem.W.subIn K (.ref c) (.type "ValueError") = some true) : PySem.W.kitOne K (.ref c) (.type "ValueError") = some true := by
  show (if ((Value.ref c) == (Value.type "ValueError")) = true then some true else if PySem.W.kitMeta "ValueError" = true then PySem.W.subIn K (.ref c) (.type "ValueError") else none) = _
  rw [if_neg (by simp), if_pos (by decide +kernel)]
  exact h
theorem exm_sub (h0 : PySem.W.subIn K (.ref d) (.type "BaseException") = some true) (h1 : PySem.W.isClsIn K d = true) (h2 : PySem.W.typeIn K (.ref d) = some (.type "type")) (h3 : PySem.W.subIn K (.ref c) (.ref d) = some b) : PySem.W.exmOne K (.ref c) (.ref d) = some b := by
  show (if (PySem.W.subIn K (.ref d) (.type "BaseException") == some true) = true then PySem.W.kitCls K (.ref c) (.ref d) else none) = _
  rw [if_pos (by rw [h0]; rfl)]
  exact kit_cls h1 h2 h3
theorem clsF_mk {C : CT} {sub : Nat → Nat → Option Bool} (h1 : ∀ c d b, sub c d = some b → PySem.W.kitOne K (.ref (C.ca c)) (.ref (C.ca d)) = some b) (h2 : ∀ c d b, sub c d = some b → c < 10 → InsK K (C.ca c))
    (h3 : ∀ c d b, sub c d = some b → 10 ≤ c → ExcK K (C.ca c) ∧ PySem.W.kitOne K (.ref (C.ca c)) (.type "ValueError") = some true) : ClsF K C sub := ⟨h1, h2, fun c d b h k => (h3 c d b h k).1, fun c d b h k => (h3 c d b h k).2⟩
end
def spLaw (K : PySem.W.Frag) : Sp := fun vs H Q _ => ∃ (ns : List Int) (a : Addr), ns.length ≤ 63 ∧ vs = [.ref a] ∧ SqL K H a (ns.map V.int) ∧ ∀ H', Q (.bl true) H'
/-- the law's own def -/
theorem law_end {P : Program} {w : World} {K : PySem.W.Frag} {mg : Str → Option Value} {base : Heap} {ca : Nat → Addr} {fl : Nat → List Str} {sub : Nat → Nat → Option Bool} {W : Nat} {prog : Nat → Option Def} {fac : Cx → Call → Prop} {f n k : Nat} {d : Def} {fa : Addr} {fd : FuncData} {x q : Str} {st : Stmt} {N ps : List Str}
    (hd : prog f = some d) (hnp : d.np = 1) (F : Fun K x q st fa fd) (S : FnScope N ps (defScope st)) (h1 : N.length = d.ns) (h2 : ps.length = d.np)
    (hbody : ∀ (Γ : Call) (X : Cx), fac X Γ → Good X N (defScope st) → MB X ⟨K, ca, fl⟩ sub Γ W d.body (defBody st))
    (hfac : ∀ X : Cx, X.prog = P → X.w = w → X.K = K → X.mg = mg → X.base = base → X.calm = true → Room k X.A → fac X (run sub W prog n))
    (ok : ∀ ns : List Int, ns.length ≤ 63 → ∃ st', run sub W prog (n + 1) f [.f (.scr ns)] [] = .ok (.f (.bl true)) st') : FnOk P w K mg base (L2.CX P w) (k + 1) fa fd ps (spLaw K) := by
  refine FnOk.imp (sp := FnSem ⟨K, ca, fl⟩ (run sub W prog (n + 1)) f) (F.okX S (fun vs H Q E hs => ?_) (fun cdv A outer s H vs Q E hr hs => ?_)) fun vs H Q E ⟨ns, a, hl, e, hs, q⟩ => ?_
  · obtain ⟨args, st', L, hs', r, h⟩ := hs
    simp only [run, hd] at h
    by_cases hl : args.length = d.np
    · rw [r.length, hl, h2]
    · rw [if_neg hl] at h; exact h.elim
  · obtain ⟨args, st', L, hs', r, h⟩ := hs
    simp only [run, hd] at h
    by_cases hl : args.length = d.np
    · rw [if_pos hl] at h
      exact ⟨_, hbody _ _ (hfac _ rfl rfl rfl rfl rfl rfl hr) ⟨rfl, rfl, S.nd, rfl, fun _ => rfl, passes_of rfl, rfl, rfl, rfl⟩, env0 d args, st', L, hs', env_start r N d h1, leave_sound (takes_of rfl rfl rfl rfl) hs' _ h⟩
    · rw [if_neg hl] at h; exact h.elim
  · obtain ⟨st', hr⟩ := ok ns hl
    subst e
    refine ⟨[.f (.scr ns)], [], ⟨[], []⟩, ⟨rfl, List.nodup_nil, fun n o h => by simp at h, fun a h => by simp at h⟩, ⟨.ref a, [], rfl, ⟨a, rfl, ?_⟩, rfl⟩, ?_⟩
    · rcases hs with hs | hs
      · exact .inl ⟨by simp [Lay.all], hs⟩
      · exact .inr fun H' => .inr hs
    · rw [hr]
      intro L' v H' _ _ r
      cases r
      exact q H'
end MP

namespace MP
open PySem L2
section
variable {T : Tab} {X : Cx} {C : CT} {sub : Nat → Nat → Option Bool} {Γ : Call} {W : Nat} {N : List Str} {sc : Scope} {a b c : E} {xa xb xc : Expr} {pos : Pos}
theorem mv_chain {o p : CO} {op op' : CmpOp} (ho : CopOk X C o op) (ho' : CopOk X C p op') (ha : ME X C sub Γ a xa) (hb : ME X C sub Γ b xb) (hc : ME X C sub Γ c xc) (hm : lastMarks [op, op'] [xb, xc] = false) : ME X C sub Γ (.chain o p a b c) (.Compare xa [op, op'] [xb, xc] pos) := by
  obtain ⟨r, ho, hr⟩ := ho
  obtain ⟨r', ho', hr'⟩ := ho'
  refine PE_imp (pe_chain ho ho' ha hb hc hm) fun σ H Q q => ?_
  obtain ⟨env, st, L, hs, he, h⟩ := q
  simp only [evE] at h
  refine ⟨env, st, L, hs, he, h.bind fun pa st1 L1 v H1 _ e1 s1 r1 h1 => ?_⟩
  refine ⟨env, st1, L1, s1, he.ext e1, h1.bind fun pb st2 L2 w H2 _ e2 s2 r2 h2 => ?_⟩
  cases hz : cmpS st2 o pa pb with
  | none => rw [hz] at h2; exact h2.elim
  | some k =>
    rw [hz] at h2
    refine hr pa pb k v w L2 H2 st2 _ hz s2 (VP.ext e2 r1) r2 ⟨k, rfl, ?_⟩
    cases k with
    | true =>
      have h2 : Ans X C σ L2 H2 (relV C) ((evE sub Γ c env st2).bind fun z st => R.of ((cmpS st p pb z).map fun b => .f (.bl b)) st) Q := h2
      refine iteT ⟨env, st2, L2, s2, (he.ext e1).ext e2, h2.bind fun pc st3 L3 u H3 _ e3 s3 r3 h3 => ?_⟩
      obtain ⟨z, hz, h3⟩ := of_of h3
      rw [Option.map_eq_some_iff] at hz
      obtain ⟨z', hz, rfl⟩ := hz
      exact hr' pb pc z' w u L3 H3 st3 Q hz s3 (VP.ext e3 r2) r3 (h3.ok s3 rfl)
    | false =>
      have h2 : Ans X C σ L2 H2 (relV C) (.ok (.f (.bl false)) st2) Q := h2
      exact iteF (h2.ok s2 rfl)
theorem VFs.three {fx fy fz : FV} {ws : List V} {L : Lay} {H : Hp} (h : VFs C L.all H [fx, fy, fz] ws) : ∃ v w u, ws = [v, w, u] ∧ VF C L.all H fx v ∧ VF C L.all H fy w ∧ VF C L.all H fz u := by
  obtain ⟨v, ws1, rfl, r1, h⟩ := h
  obtain ⟨w, ws2, rfl, r2, h⟩ := h
  obtain ⟨u, ws3, rfl, r3, h⟩ := h
  have h : ws3 = [] := h
  subst h
  exact ⟨v, w, u, rfl, r1, r2, r3⟩
theorem set_three {α : Type} (σ : List α) {i j k : Nat} (hij : i ≠ j) (hik : i ≠ k) (hjk : j ≠ k) (a b c n : α) : (((((σ.set i a).set j b).set k c).set k n).set j n).set i n = ((σ.set k n).set j n).set i n := by
  rw [List.set_set, List.set_comm _ _ hjk, List.set_set, List.set_comm _ _ hik, List.set_comm _ _ hij, List.set_set]
theorem mg_tup3 {i j l : Nat} {k : Nat} {x1 x2 x3 : Str} {p1 p2 p3 : Pos} (hc : X.calm = true) (hij : i ≠ j) (hik : i ≠ l) (hjk : j ≠ l) (hs1 : Fk.Sto X x1) (hs2 : Fk.Sto X x2) (hs3 : Fk.Sto X x3) (hd : X.N.Nodup) (hi : X.N[i]? = some x1) (hj : X.N[j]? = some x2) (hl : X.N[l]? = some x3)
    (h1 : (assignEach (.Name x1 p1 :: .Name x2 p2 :: .Name x3 p3 :: []) X.env).map (·.2) = assign (.Name x1 p1) X.env :: (assignEach (.Name x2 p2 :: .Name x3 p3 :: []) X.env).map (·.2)) (h2 : (assignEach (.Name x2 p2 :: .Name x3 p3 :: []) X.env).map (·.2) = assign (.Name x2 p2) X.env :: (assignEach (.Name x3 p3 :: []) X.env).map (·.2)) (h3 : (assignEach (.Name x3 p3 :: []) X.env).map (·.2) = assign (.Name x3 p3) X.env :: (assignEach [] X.env).map (·.2))
    (hn : (assignEach [.Name x1 p1, .Name x2 p2, .Name x3 p3] X.env).length = 3) (hst : (assignEach [.Name x1 p1, .Name x2 p2, .Name x3 p3] X.env).findIdx? (·.1) = none) : MG X C [i, j, l] (.Tuple [.Name x1 p1, .Name x2 p2, .Name x3 p3] k pos) := by
  have hp := pg_tup (X := X) (k := k) (pos := pos) hc (pgs_cons (pg_name (i := i) (pos := p1) hd hi hs1.loc hs1.fn) (pgs_cons (pg_name (i := j) (pos := p2) hd hj hs2.loc hs2.fn) (pgs_cons (pg_name (i := l) (pos := p3) hd hl hs3.loc hs3.fn) pgs_nil h3) h2) h1) hn hst
  refine ⟨fun pins s σ H v u Q I r q => hp.run pins s σ H v u Q I r ?_⟩
  obtain ⟨env, L, f, env', he, rf, hb, q⟩ := q
  cases f with
  | tup xs =>
    match xs, hb, rf with
    | [x, y, z], hb, rf =>
      cases hb
      obtain ⟨a, vs, rfl, na, ha, rs⟩ := rf
      obtain ⟨v, w, u, rfl, r1, r2, r3⟩ := VFs.three rs
      refine ⟨a, _, rfl, SqT.of ha, rfl, v, _, rfl, w, _, rfl, u, _, rfl, rfl, q _ (((he.set (pv := .f x) r1).set (pv := .f y) r2).set (pv := .f z) r3) ?_⟩
      show (((wipe (((σ.set i (some v)).set j (some w)).set l (some u)) []).set l none).set j none).set i none = (((wipe σ []).set l none).set j none).set i none
      exact set_three _ hij hik hjk _ _ _ _
  | _ => cases hb
theorem rg_tup3 {i j l k : Nat} {n n2 n3 : Str} {p p2 p3 : Pos} (g : Good X N sc) (hij : i ≠ j) (hik : i ≠ l) (hjk : j ≠ l) (h1 : sc.names.lookup n = some .local ∨ sc.names.lookup n = some .cell) (h2 : sc.names.lookup n2 = some .local ∨ sc.names.lookup n2 = some .cell) (h3 : sc.names.lookup n3 = some .local ∨ sc.names.lookup n3 = some .cell) (hi : N[i]? = some n) (hj : N[j]? = some n2) (hl : N[l]? = some n3) : MG X C [i, j, l] (.Tuple [.Name n p, .Name n2 p2, .Name n3 p3] k pos) :=
  mg_tup3 g.calm hij hik hjk (sto_of g h1) (sto_of g h2) (sto_of g h3) g.nd (by rw [g.hN]; exact hi) (by rw [g.hN]; exact hj) (by rw [g.hN]; exact hl) rfl rfl rfl rfl rfl
theorem sw_parG {env : PySem.Env} {x y : Str} {px py pt pt2 : Pos} {kt k2 : Nat} {va vb : Expr} (hk : env.scope.kind = .function) (hx : env.scope.names.lookup x = some .local) (hy : env.scope.names.lookup y = some .local) (hxy : y ≠ x) (hl : (py.line == px.line) = true)
    (h1 : ([va, vb].any fun | .Starred .. => true | _ => false) = false) (h2 : [va, vb].all (foldedForSure 8) = false) (h3 : [va, vb].all (constantsAlone 8) = false) :
    swappedStores [.Tuple [.Name x px, .Name y py] kt pt] (.Tuple [va, vb] k2 pt2) env = pure (some [x, y]) := by
  have kx : env.kindOf x = some .local := hx
  have ky : env.kindOf y = some .local := hy
  have hb : env.blockKind = .function := by unfold PySem.Env.blockKind; rw [hk]; rfl
  have hl' : py.line = px.line := eq_of_beq hl
  have hd : ([x, y] : List Str).eraseDups = [x, y] := by
    rw [List.eraseDups_cons]
    simp [hxy, List.eraseDups_cons]
  simp only [List.any_cons, List.any_nil, Bool.or_false, Bool.or_eq_false_iff] at h1
  simp only [List.all_cons, List.all_nil, Bool.and_true] at h2 h3
  unfold swappedStores
  simp [h1.1, h1.2, h2, h3, hb, kx, ky, hl', Expr.pos, List.filterMap, hd]
  intro h
  rcases h with h | h
  · exact absurd (h1.1.symm.trans h) (by decide)
  · exact absurd (h1.2.symm.trans h) (by decide)
end
end MP

local macro_rules | `(tactic| walk_at "mb") => `(tactic| (first | exact MP.mb_nil | apply MP.mb_cons))
local macro_rules | `(tactic| walk_at "ms") => `(tactic| (first
  | (apply MP.rs_setLc (g := by assumption) (fc := by assumption) (hj := by rfl) (hyl := by decide +kernel) (ok := by decide +kernel) (hn := by decide +kernel) (hN := by rfl) (hs := by intro _; rfl) (hkd := by rfl) (hln := by rfl) (hany := by decide +kernel))
  | (apply MP.rs_setLc2 (g := by assumption) (fc := by assumption) (hj := by rfl) (hyl := by decide +kernel) (ok := by decide +kernel) (hn := by decide +kernel) (hn2 := by decide +kernel) (hN := by rfl) (hN2 := by rfl) (hs := by intro _; rfl) (hkd := by rfl) (hln := by rfl) (hany := by decide +kernel))
  | (apply MP.rs_setLcIf (g := by assumption) (fc := by assumption) (hj := by rfl) (hyl := by decide +kernel) (ok := by decide +kernel) (hn := by decide +kernel) (hN := by rfl) (hs := by intro _; rfl) (hkd := by rfl) (hln := by rfl) (hany := by decide +kernel))
  | (apply MP.rs_set (g := by assumption) (hN := by rfl) (hx := by decide +kernel) (hs := by rfl))
  | apply MP.ms_ret
  | apply MP.ms_if
  | (apply MP.rs_for (g := by assumption) (hs := by intro _; rfl))
  | (apply MP.ms_app (hbase := by rfl) (hfew := by rfl) (hline := by rfl) (hs := by rfl) (hplain := by rfl) (hsw := by rfl))
  | (apply MP.ms_expr (hs := by rfl))
  | (apply MP.ms_unp (hs := by rfl) (hw := by first | rfl | exact MP.sw_off (by rw [MP.Good.sc (by assumption)]; decide +kernel) | exact MP.sw_fold (by rfl)) (h1 := by rfl))
  | (apply MP.rs_par (g := by assumption) (hi := by rfl) (hj := by rfl) (hij := by decide) (hx := by decide +kernel) (hy := by decide +kernel) (h1 := by rfl) (h2 := by rfl) (hs := by rfl) (hstar := by first | rfl | exact MP.sw_parG (Fk.kind_of (MP.Good.sc (by assumption)) (by decide +kernel)) (Fk.lc_local (MP.Good.sc (by assumption)) (by decide +kernel)) (Fk.lc_local (MP.Good.sc (by assumption)) (by decide +kernel)) (by decide +kernel) rfl rfl rfl rfl | exact Fk.sw_par2 (Fk.kind_of (MP.Good.sc (by assumption)) (by decide +kernel)) (Fk.lc_local (MP.Good.sc (by assumption)) (by decide +kernel)) (Fk.lc_local (MP.Good.sc (by assumption)) (by decide +kernel)) (by decide +kernel) rfl))
  | (apply MP.rs_while (g := by assumption))
  | (apply MP.rs_raise (g := by assumption) (fc := by assumption) (hc := by rfl) (hs := by rfl) (hk := by rfl) (hg := by decide +kernel) (hdb := by decide +kernel))
  | (apply MP.rs_try (g := by assumption) (fc := by assumption) (hi := by rfl) (hj := by rfl) (hij := by decide) (hln := by decide +kernel) (hly := by decide +kernel) (hnd := by decide +kernel) (hncd := by decide +kernel) (hc := by rfl) (hg := by decide +kernel) (hdb := by decide +kernel) (hsub := MP.sub_exc))))
local macro_rules | `(tactic| walk_at "me") => `(tactic| (first
  | exact MP.mv_int | (apply MP.rv_gc (fc := by assumption) (l := by assumption) (hm := by decide +kernel) (hg := by decide +kernel) (hdb := by decide +kernel)) | exact MP.mv_bl | exact MP.mv_non | exact MP.mv_str (by decide +kernel)
  | (apply MP.rv_var (l := by assumption) (hN := by rfl) (hv := by decide +kernel) (hd := by decide +kernel) (hcd := by decide +kernel))
  | apply MP.mv_bin
  | (apply MP.rv_call (fc := by assumption) (l := by assumption) (hd := by rfl) (ht := by rfl) (hg := by decide +kernel) (hdb := by decide +kernel) (he := by rfl) (hpl := by rfl))
  | (apply MP.rv_ix (fc := by assumption) (hs := fun _ _ => rfl))
  | (apply MP.mv_chain (hm := by first | rfl | with_unfolding_all rfl))
  | (apply MP.mv_cmp (hm := by first | exact L2.nomark _ | rfl))
  | (apply MP.rv_isiB (fc := by assumption) (l := by assumption) (hm := by decide +kernel) (hg := by decide +kernel) (ht := by rfl) (hm2 := by decide +kernel) (hg2 := by decide +kernel) (hv := by decide +kernel) (hn := by decide +kernel) (hdb := by decide +kernel) (h1 := by rfl) (h2 := by rfl) (hpl := by rfl))
  | (apply MP.rv_isiC (fc := by assumption) (l := by assumption) (hm := by decide +kernel) (hg := by decide +kernel) (hc := by rfl) (hg2 := by decide +kernel) (hdb := by decide +kernel) (h1 := by rfl) (h2 := by rfl) (hpl := by rfl))
  | (apply MP.rv_len (fc := by assumption) (l := by assumption) (hm := by decide +kernel) (hg := by decide +kernel) (he := by rfl) (hpl := by rfl))
  | (apply MP.rv_max (fc := by assumption) (l := by assumption) (hm := by decide +kernel) (hg := by decide +kernel) (he := by rfl) (hpl := by rfl))
  | (apply MP.rv_min (fc := by assumption) (l := by assumption) (hm := by decide +kernel) (hg := by decide +kernel) (he := by rfl) (hpl := by rfl))
  | (apply MP.rv_all (fc := by assumption) (l := by assumption) (hm := by decide +kernel) (hg := by decide +kernel) (he := by rfl) (hpl := by rfl))
  | (apply MP.rv_int (fc := by assumption) (l := by assumption) (hm := by decide +kernel) (hg := by decide +kernel) (he := by rfl) (hpl := by rfl))
  | (apply MP.rv_tuple (fc := by assumption) (l := by assumption) (hm := by decide +kernel) (hg := by decide +kernel) (he := by rfl) (hpl := by rfl))
  | (apply MP.rv_list (fc := by assumption) (l := by assumption) (hm := by decide +kernel) (hg := by decide +kernel) (he := by rfl) (hpl := by rfl))
  | (apply MP.rv_tup (hl := by rfl)) | (apply MP.rv_lst (hl := by rfl)) | (apply MP.rv_mlst (hl := by rfl))
  | apply MP.mv_and | apply MP.mv_or | apply MP.mv_one | apply MP.mv_not | apply MP.mv_neg
  | apply MP.mv_ite
  | apply MP.mv_cutTo | apply MP.mv_cutFrom | apply MP.mv_cut
  | (apply MP.mv_count (hbase := by rfl) (hfew := by rfl) (hline := by rfl) (hs := by rfl) (hplain := by rfl))
  | (apply MP.mv_join (hbase := by rfl) (hfew := by rfl) (hline := by rfl) (hs := by rfl) (hplain := by rfl))
  | (apply MP.rv_lc (g := by assumption) (fc := by assumption) (ok := by decide +kernel) (hn := by decide +kernel) (hN := by rfl) (hs := by intro _; rfl))
  | (apply MP.rv_lc2 (g := by assumption) (fc := by assumption) (ok := by decide +kernel) (hn := by decide +kernel) (hn2 := by decide +kernel) (hN := by rfl) (hN2 := by rfl) (hs := by intro _; rfl))
  | (apply MP.rv_lcIf (g := by assumption) (fc := by assumption) (ok := by decide +kernel) (hn := by decide +kernel) (hN := by rfl) (hs := by intro _; rfl))
  | (apply MP.rv_lcIf2 (g := by assumption) (fc := by assumption) (ok := by decide +kernel) (hn := by decide +kernel) (hn2 := by decide +kernel) (hN := by rfl) (hN2 := by rfl) (hs := by intro _; rfl))))
local macro_rules | `(tactic| walk_at "mt") => `(tactic| (first
  | apply MP.mt_not | (apply MP.mt_cmp (hm := by first | exact L2.nomark _ | rfl)) | (apply MP.mt_w; first | apply MP.mw_and | apply MP.mw_or) | (apply MP.mt_val (he := by intro _; rfl))))
local macro_rules | `(tactic| walk_at "m1") => `(tactic| (first
  | ((with_reducible show MP.ME _ _ _ _ _ _); walk_at "me")
  | ((with_reducible show MP.MEs _ _ _ _ _ _); first | exact MP.me_nil | apply MP.me_cons (hs := by rfl))
  | ((with_reducible show MP.MT _ _ _ _ _ _); walk_at "mt")
  | ((with_reducible show MP.MW _ _ _ _ _ _); first | apply MP.mw_and | apply MP.mw_or | apply MP.mw_and1 | apply MP.mw_or1)
  | ((with_reducible show MP.MB _ _ _ _ _ _ _); walk_at "mb")
  | ((with_reducible show MP.MS _ _ _ _ _ _ _); walk_at "ms")
  | ((with_reducible show MP.CopOk _ _ _ _); first | exact MP.r_eq (by assumption) | exact MP.r_ne (by assumption) | exact MP.cop_lt | exact MP.cop_le | exact MP.cop_gt | exact MP.cop_ge | exact MP.r_in (by assumption) | exact MP.r_notin (by assumption) | exact MP.cop_is | exact MP.cop_isnot)
  | ((with_reducible show MP.BopOk _ _ _ _); first | exact MP.r_add (by assumption) | exact MP.bop_sub | exact MP.bop_mul | exact MP.bop_fdiv | exact MP.bop_mod | exact MP.bop_pow | exact MP.bop_shl | exact MP.bop_shr)
  | ((with_reducible show MP.MI _ _ _ _ _ _ _); first
      | (apply MP.ri_enum (fc := by assumption) (l := by assumption) (hm := by decide +kernel) (hg := by decide +kernel) (hs := by rfl) (hs2 := by rfl))
      | (apply MP.ri_zip (fc := by assumption) (l := by assumption) (hm := by decide +kernel) (hg := by decide +kernel) (h1 := by rfl) (h2 := by rfl) (hpl := by rfl))
      | (apply MP.ri_zipN (fc := by assumption) (l := by assumption) (hm := by decide +kernel) (hg := by decide +kernel) (h1 := by rfl) (h2 := by rfl) (hpl := by rfl))
      | (apply MP.ri_range (fc := by assumption) (l := by assumption) (hm := by decide +kernel) (hg := by decide +kernel) (hs := by rfl) (hs2 := by rfl))
      | (apply MP.ri_seq (fc := by assumption)))
  | ((with_reducible show MP.MG _ _ _ _); first
      | (apply MP.rg_tup2 (g := by assumption) (h1 := by decide +kernel) (h2 := by decide +kernel) (hi := by rfl) (hj := by rfl))
      | (apply MP.rg_tup3 (g := by assumption) (hij := by decide) (hik := by decide) (hjk := by decide) (h1 := by decide +kernel) (h2 := by decide +kernel) (h3 := by decide +kernel) (hi := by rfl) (hj := by rfl) (hl := by rfl))
      | (apply MP.rg_name (g := by assumption) (h := by decide +kernel) (hi := by rfl)))
  | (refine fun _ (_ : MP.Lv _ _ _) (_ : MP.Fac _ _ _ _) => ?_)
  | (refine fun _ (_ : MP.Good _ _ _) (_ : MP.Fac _ _ _ _) => ?_; have := MP.Good.lv (by assumption))))
local macro_rules | `(tactic| walk_at "m") => `(tactic| (repeat' walk_at "m1"))
namespace MP
open PySem L2
def tie : Nat → Tie
  | 22 => .fn "lifted"
  | 23 => .fn "base"
  | 24 => .fn "spread"
  | 26 => .fn "told_least"
  | 27 => .fn "told_greatest"
  | 32 => .fn "halves"
  | 36 => .fn "filled"
  | 37 => .fn "price"
  | 38 => .fn "goes_left"
  | 39 => .fn "grown"
  | 40 => .fn "raised"
  | 6 => .fn "_law_mixed"
  | 8 => .fn "_law_own"
  | 9 => .fn "_law_places"
  | 10 => .fn "_law_own_of"
  | 28 => .fn "_law_tree"
  | 29 => .fn "_law_numbers"
  | 30 => .fn "_law_told_of"
  | 16 => .fn "_law_word"
  | 41 => .fn "_law_filled"
  | 42 => .fn "_law_leaves"
  | 43 => .fn "_law_grown"
  | 44 => .fn "_law_refused"
  | 45 => .fn "_law_far"
  | 12 => .fn "law"
  | _ => .fn ""
def T0 : Tab := ⟨prog, tie, [("isinstance" : Str), ("int" : Str), ("tuple" : Str), ("len" : Str), ("max" : Str), ("min" : Str), ("range" : Str), ("enumerate" : Str), ("ValueError" : Str)], fun n => match n with
  | 10 => some "StampError"
  | 11 => some "BadOwn"
  | 12 => some "BadTold"
  | 13 => some "Shared"
  | 14 => some "NoOwn"
  | 15 => some "BadRow"
  | 16 => some "NoHand"
  | _ => none, subc, [("PARTED", 1000)]⟩
section
variable {P : Program} {w : World} {K : PySem.W.Frag} {mg : Str → Option Value} {base : Heap} {C : CT} {W : Nat}
theorem dd_lifted (F : Fk.DefAt K mg "lifted" Fk.s_lifted) : DefD P w K mg base C T0.sub W (Fac T0 C) d_lifted (.fn "lifted") :=
  dd_fn (N := ["told", "more"]) (ps := ["told", "more"]) F ⟨rfl, rfl, rfl, by decide +kernel, rfl, by decide +kernel, by decide +kernel⟩ (fun _ _ _ _ _ _ us hl => match us, hl with | [_, _], _ => rfl) rfl rfl fun Γ X fc g => by
    have lv := g.lv
    walk_at "m"
theorem dd_base (F : Fk.DefAt K mg "base" Fk.s_base) : DefD P w K mg base C T0.sub W (Fac T0 C) d_base (.fn "base") :=
  dd_fn (N := ["told"]) (ps := ["told"]) F ⟨rfl, rfl, rfl, by decide +kernel, rfl, by decide +kernel, by decide +kernel⟩ (fun _ _ _ _ _ _ us hl => match us, hl with | [_], _ => rfl) rfl rfl fun Γ X fc g => by
    have lv := g.lv
    walk_at "m"
theorem dd_spread (F : Fk.DefAt K mg "spread" Fk.s_spread) : DefD P w K mg base C T0.sub W (Fac T0 C) d_spread (.fn "spread") :=
  dd_fn (N := ["number", "left", "right", "least"]) (ps := ["number", "left", "right"]) F ⟨rfl, rfl, rfl, by decide +kernel, rfl, by decide +kernel, by decide +kernel⟩ (fun _ _ _ _ _ _ us hl => match us, hl with | [_, _, _], _ => rfl) rfl rfl fun Γ X fc g => by
    have lv := g.lv
    walk_at "m"
theorem dd_told_least (F : Fk.DefAt K mg "told_least" Fk.s_told_least) : DefD P w K mg base C T0.sub W (Fac T0 C) d_told_least (.fn "told_least") :=
  dd_fn (N := ["told"]) (ps := ["told"]) F ⟨rfl, rfl, rfl, by decide +kernel, rfl, by decide +kernel, by decide +kernel⟩ (fun _ _ _ _ _ _ us hl => match us, hl with | [_], _ => rfl) rfl rfl fun Γ X fc g => by
    have lv := g.lv
    walk_at "m"
theorem dd_told_greatest (F : Fk.DefAt K mg "told_greatest" Fk.s_told_greatest) : DefD P w K mg base C T0.sub W (Fac T0 C) d_told_greatest (.fn "told_greatest") :=
  dd_fn (N := ["told"]) (ps := ["told"]) F ⟨rfl, rfl, rfl, by decide +kernel, rfl, by decide +kernel, by decide +kernel⟩ (fun _ _ _ _ _ _ us hl => match us, hl with | [_], _ => rfl) rfl rfl fun Γ X fc g => by
    have lv := g.lv
    walk_at "m"
theorem dd_halves (F : Fk.DefAt K mg "halves" Fk.s_halves) : DefD P w K mg base C T0.sub W (Fac T0 C) d_halves (.fn "halves") :=
  dd_fn (N := ["told"]) (ps := ["told"]) F ⟨rfl, rfl, rfl, by decide +kernel, rfl, by decide +kernel, by decide +kernel⟩ (fun _ _ _ _ _ _ us hl => match us, hl with | [_], _ => rfl) rfl rfl fun Γ X fc g => by
    have lv := g.lv
    walk_at "m"
theorem dd_filled (F : Fk.DefAt K mg "filled" Fk.s_filled) : DefD P w K mg base C T0.sub W (Fac T0 C) d_filled (.fn "filled") :=
  dd_fn (N := ["own", "told", "left", "right"]) (ps := ["own", "told"]) F ⟨rfl, rfl, rfl, by decide +kernel, rfl, by decide +kernel, by decide +kernel⟩ (fun _ _ _ _ _ _ us hl => match us, hl with | [_, _], _ => rfl) rfl rfl fun Γ X fc g => by
    have lv := g.lv
    walk_at "m"
theorem dd_price (F : Fk.DefAt K mg "price" Fk.s_price) : DefD P w K mg base C T0.sub W (Fac T0 C) d_price (.fn "price") :=
  dd_fn (N := ["own", "told", "more", "left", "right"]) (ps := ["own", "told"]) F ⟨rfl, rfl, rfl, by decide +kernel, rfl, by decide +kernel, by decide +kernel⟩ (fun _ _ _ _ _ _ us hl => match us, hl with | [_, _], _ => rfl) rfl rfl fun Γ X fc g => by
    have lv := g.lv
    walk_at "m"
theorem dd_goes_left (F : Fk.DefAt K mg "goes_left" Fk.s_goes_left) : DefD P w K mg base C T0.sub W (Fac T0 C) d_goes_left (.fn "goes_left") :=
  dd_fn (N := ["own", "left", "right"]) (ps := ["own", "left", "right"]) F ⟨rfl, rfl, rfl, by decide +kernel, rfl, by decide +kernel, by decide +kernel⟩ (fun _ _ _ _ _ _ us hl => match us, hl with | [_, _, _], _ => rfl) rfl rfl fun Γ X fc g => by
    have lv := g.lv
    walk_at "m"
theorem dd_grown (F : Fk.DefAt K mg "grown" Fk.s_grown) : DefD P w K mg base C T0.sub W (Fac T0 C) d_grown (.fn "grown") :=
  dd_fn (N := ["own", "told", "left", "right"]) (ps := ["own", "told"]) F ⟨rfl, rfl, rfl, by decide +kernel, rfl, by decide +kernel, by decide +kernel⟩ (fun _ _ _ _ _ _ us hl => match us, hl with | [_, _], _ => rfl) rfl rfl fun Γ X fc g => by
    have lv := g.lv
    walk_at "m"
theorem dd_raised (F : Fk.DefAt K mg "raised" Fk.s_raised) : DefD P w K mg base C T0.sub W (Fac T0 C) d_raised (.fn "raised") :=
  dd_fn (N := ["own", "told", "found"]) (ps := ["own", "told"]) F ⟨rfl, rfl, rfl, by decide +kernel, rfl, by decide +kernel, by decide +kernel⟩ (fun _ _ _ _ _ _ us hl => match us, hl with | [_, _], _ => rfl) rfl rfl fun Γ X fc g => by
    have lv := g.lv
    walk_at "m"
theorem dd__law_mixed (F : Fk.DefAt K mg "_law_mixed" Fk.s__law_mixed) : DefD P w K mg base C T0.sub W (Fac T0 C) d__law_mixed (.fn "_law_mixed") :=
  dd_fn (N := ["_law_cell", "_law_k", "_law_mixed_here"]) (ps := ["_law_cell", "_law_k"]) F ⟨rfl, rfl, rfl, by decide +kernel, rfl, by decide +kernel, by decide +kernel⟩ (fun _ _ _ _ _ _ us hl => match us, hl with | [_, _], _ => rfl) rfl rfl fun Γ X fc g => by
    have lv := g.lv
    walk_at "m"
theorem dd__law_own (F : Fk.DefAt K mg "_law_own" Fk.s__law_own) : DefD P w K mg base C T0.sub W (Fac T0 C) d__law_own (.fn "_law_own") :=
  dd_fn (N := ["_law_number", "_law_deep", "_law_more"]) (ps := ["_law_number", "_law_deep"]) F ⟨rfl, rfl, rfl, by decide +kernel, rfl, by decide +kernel, by decide +kernel⟩ (fun _ _ _ _ _ _ us hl => match us, hl with | [_, _], _ => rfl) rfl rfl fun Γ X fc g => by
    have lv := g.lv
    walk_at "m"
theorem dd__law_places (F : Fk.DefAt K mg "_law_places" Fk.s__law_places) : DefD P w K mg base C T0.sub W (Fac T0 C) d__law_places (.fn "_law_places") :=
  dd_fn (N := ["_law_own_here", "_law_deep"]) (ps := ["_law_own_here", "_law_deep"]) F ⟨rfl, rfl, rfl, by decide +kernel, rfl, by decide +kernel, by decide +kernel⟩ (fun _ _ _ _ _ _ us hl => match us, hl with | [_, _], _ => rfl) rfl rfl fun Γ X fc g => by
    have lv := g.lv
    walk_at "m"
theorem dd__law_own_of (F : Fk.DefAt K mg "_law_own_of" Fk.s__law_own_of) : DefD P w K mg base C T0.sub W (Fac T0 C) d__law_own_of (.fn "_law_own_of") :=
  dd_fn (N := ["_law_places_here", "_law_half"]) (ps := ["_law_places_here"]) F ⟨rfl, rfl, rfl, by decide +kernel, rfl, by decide +kernel, by decide +kernel⟩ (fun _ _ _ _ _ _ us hl => match us, hl with | [_], _ => rfl) rfl rfl fun Γ X fc g => by
    have lv := g.lv
    walk_at "m"
theorem dd__law_tree (F : Fk.DefAt K mg "_law_tree" Fk.s__law_tree) : DefD P w K mg base C T0.sub W (Fac T0 C) d__law_tree (.fn "_law_tree") :=
  dd_fn (N := ["_law_cell", "_law_number", "_law_deep", "_law_more", "_law_amount", "_law_left"]) (ps := ["_law_cell", "_law_number", "_law_deep"]) F ⟨rfl, rfl, rfl, by decide +kernel, rfl, by decide +kernel, by decide +kernel⟩ (fun _ _ _ _ _ _ us hl => match us, hl with | [_, _, _], _ => rfl) rfl rfl fun Γ X fc g => by
    have lv := g.lv
    walk_at "m"
theorem dd__law_numbers (F : Fk.DefAt K mg "_law_numbers" Fk.s__law_numbers) : DefD P w K mg base C T0.sub W (Fac T0 C) d__law_numbers (.fn "_law_numbers") :=
  dd_fn (N := ["_law_told", "_law_deep", "_law_number"]) (ps := ["_law_told", "_law_deep"]) F ⟨rfl, rfl, rfl, by decide +kernel, rfl, by decide +kernel, by decide +kernel⟩ (fun _ _ _ _ _ _ us hl => match us, hl with | [_, _], _ => rfl) rfl rfl fun Γ X fc g => by
    have lv := g.lv
    walk_at "m"
theorem dd__law_told_of (F : Fk.DefAt K mg "_law_told_of" Fk.s__law_told_of) : DefD P w K mg base C T0.sub W (Fac T0 C) d__law_told_of (.fn "_law_told_of") :=
  dd_fn (N := ["_law_numbers_here", "_law_least", "_law_half", "_law_rest", "_law_number"]) (ps := ["_law_numbers_here"]) F ⟨rfl, rfl, rfl, by decide +kernel, rfl, by decide +kernel, by decide +kernel⟩ (fun _ _ _ _ _ _ us hl => match us, hl with | [_], _ => rfl) rfl rfl fun Γ X fc g => by
    have lv := g.lv
    walk_at "m"
theorem dd__law_word (F : Fk.DefAt K mg "_law_word" Fk.s__law_word) : DefD P w K mg base C T0.sub W (Fac T0 C) d__law_word (.fn "_law_word") :=
  dd_fn (N := ["_law_caught", "_law_found"]) (ps := ["_law_caught"]) F ⟨rfl, rfl, rfl, by decide +kernel, rfl, by decide +kernel, by decide +kernel⟩ (fun _ _ _ _ _ _ us hl => match us, hl with | [_], _ => rfl) rfl rfl fun Γ X fc g => by
    have lv := g.lv
    walk_at "m"
theorem dd__law_filled (F : Fk.DefAt K mg "_law_filled" Fk.s__law_filled) : DefD P w K mg base C T0.sub W (Fac T0 C) d__law_filled (.fn "_law_filled") :=
  dd_fn (N := ["_law_own_here", "_law_numbers_here", "_law_half", "_law_left", "_law_right"]) (ps := ["_law_own_here", "_law_numbers_here"]) F ⟨rfl, rfl, rfl, by decide +kernel, rfl, by decide +kernel, by decide +kernel⟩ (fun _ _ _ _ _ _ us hl => match us, hl with | [_, _], _ => rfl) rfl rfl fun Γ X fc g => by
    have lv := g.lv
    walk_at "m"
theorem dd__law_leaves (F : Fk.DefAt K mg "_law_leaves" Fk.s__law_leaves) : DefD P w K mg base C T0.sub W (Fac T0 C) d__law_leaves (.fn "_law_leaves") :=
  dd_fn (N := ["_law_own_here", "_law_numbers_here", "_law_at_here", "_law_paid", "_law_half", "_law_more", "_law_found"]) (ps := ["_law_own_here", "_law_numbers_here", "_law_at_here", "_law_paid"]) F ⟨rfl, rfl, rfl, by decide +kernel, rfl, by decide +kernel, by decide +kernel⟩ (fun _ _ _ _ _ _ us hl => match us, hl with | [_, _, _, _], _ => rfl) rfl rfl fun Γ X fc g => by
    have lv := g.lv
    walk_at "m"
theorem dd__law_grown (F : Fk.DefAt K mg "_law_grown" Fk.s__law_grown) : DefD P w K mg base C T0.sub W (Fac T0 C) d__law_grown (.fn "_law_grown") :=
  dd_fn (N := ["_law_own_here", "_law_numbers_here", "_law_leaves_here", "_law_least", "_law_leaf", "_law_paid", "_law_at_here", "_law_size", "_law_more", "_law_place", "_law_number"]) (ps := ["_law_own_here", "_law_numbers_here"]) F ⟨rfl, rfl, rfl, by decide +kernel, rfl, by decide +kernel, by decide +kernel⟩ (fun _ _ _ _ _ _ us hl => match us, hl with | [_, _], _ => rfl) rfl rfl fun Γ X fc g => by
    have lv := g.lv
    walk_at "m"
theorem dd__law_refused (F : Fk.DefAt K mg "_law_refused" Fk.s__law_refused) : DefD P w K mg base C T0.sub W (Fac T0 C) d__law_refused (.fn "_law_refused") :=
  dd_fn (N := ["_law_told", "_law_caught", "error"]) (ps := ["_law_told"]) F ⟨rfl, rfl, rfl, by decide +kernel, rfl, by decide +kernel, by decide +kernel⟩ (fun _ _ _ _ _ _ us hl => match us, hl with | [_], _ => rfl) rfl rfl fun Γ X fc g => by
    have lv := g.lv
    walk_at "m"
theorem dd__law_far (F : Fk.DefAt K mg "_law_far" Fk.s__law_far) : DefD P w K mg base C T0.sub W (Fac T0 C) d__law_far (.fn "_law_far") :=
  dd_fn (N := ["_law_number", "_law_own_here", "_law_told", "_law_due", "_law_k"]) (ps := ["_law_number"]) F ⟨rfl, rfl, rfl, by decide +kernel, rfl, by decide +kernel, by decide +kernel⟩ (fun _ _ _ _ _ _ us hl => match us, hl with | [_], _ => rfl) rfl rfl fun Γ X fc g => by
    have lv := g.lv
    walk_at "m"
theorem law_body {Γ : Call} {X : Cx} (fc : Fac T0 C X Γ) (g : Good X ["_law_script", "_law_k", "_law_cell", "_law_mixed_here", "_law_own_here", "_law_tree_here", "_law_numbers_here", "_law_told", "_law_full", "_law_some", "_law_due"] (defScope Fk.s_law)) : MB X C T0.sub Γ W d_law.body (defBody Fk.s_law) := by
  have lv := g.lv
  walk_at "m"
theorem dd_law (F : Fk.DefAt K mg "law" Fk.s_law) : DefD P w K mg base C T0.sub W (Fac T0 C) d_law (.fn "law") :=
  dd_fn (N := ["_law_script", "_law_k", "_law_cell", "_law_mixed_here", "_law_own_here", "_law_tree_here", "_law_numbers_here", "_law_told", "_law_full", "_law_some", "_law_due"]) (ps := ["_law_script"]) F ⟨rfl, rfl, rfl, by decide +kernel, rfl, by decide +kernel, by decide +kernel⟩ (fun _ _ _ _ _ _ us hl => match us, hl with | [_], _ => rfl) rfl rfl fun Γ X fc g => law_body fc g
end
end MP

namespace MP
namespace Pl
open Fk
def farB : Bk := match d__law_far.body with
  | .cons _ (.cons (.fors _ _ b) _) => b
  | _ => .nil
theorem far_turn (W n i : Nat) (v : FV) (e0 e4 : Option PV) (st : Store) : kFor subc (run subc W prog n) W [4] farB v [e0, some (.f (encO (farO i))), some (.f (encT (farT 1 i))), some (.f (encT (farT 2 i))), e4] st =
    .nx [e0, some (.f (encO (farO (i + 1)))), some (.f (encT (farT 1 (i + 1)))), some (.f (encT (farT 2 (i + 1)))), some (.f v)] st := by
  simp only [bind_ok, bind_exc, fr_ok, fr_exc, frI_ok, frI_exc, tst_ok, tst_exc, of_some, s_ok, s_exc, sb_nx, sb_rt, sb_exc, so_some, g_true, kGet_some, ev_v, ev_k, k2bin_eq, k1bin_eq, ev_bin, k2cmp_eq, k1cmp_eq, ev_cmp, k2ix_eq, k1ix_eq, ev_ix, k2dget_eq, k1dget_eq, ev_dget, k2din_eq, k1din_eq, ev_din, k2dnot_eq, k1dnot_eq, ev_dnot, k2cutTo_eq, k1cutTo_eq, ev_cutTo, k2cutFrom_eq, k1cutFrom_eq, ev_cutFrom, k1and_eq, ev_and, k1or_eq, ev_or, k1not_eq, ev_not, k1neg_eq, ev_neg, k1ite_eq, ev_ite, k4chain_eq, k3chain_eq, k2chain_eq, k1chain_eq, ev_chain, k1tup_eq, ev_tup, k1lst_eq, ev_lst, k1mlst_eq, ev_mlst, k1mdic_eq, ev_mdic, ev_call, k1blt_eq, ev_blt, k2meth_eq, k1meth_eq, ev_meth, k1make_eq, ev_make, k2make_ok, k2make_exc, k1fld_eq, ev_fld, k1isi_eq, ev_isi, k2bm_eq, k1bm_eq, ev_bm, k3cut_eq, k2cuti_eq, k2cut_eq, k1cut_eq, ev_cut, kElt_f, kLst_eq, kLcB_some, kLcT_eq, kLc_eq, ev_lc, kIfF_eq, kLcIfB_some, kLcIfT_eq, kLcIf_eq, ev_lcIf, k2es_eq, k1es_eq, es_nil, es_cons, kSeq_eq, it_seq, kRange_eq, it_range, k3rangeS_eq, k2rangeS_eq, k1rangeS_eq, it_rangeS, kEnum_lst, kEnum_scr, it_enum, kZip_lst, k1zip_eq, it_zip, kSet_eq, ex_set, kNx_eq, kUnp_f, ex_unp, k2par_eq, k1par_eq, ex_par, k2app_eq, k1app_eq, ex_app, kIf_b, ex_ifs, kRt_eq, ex_ret, kEx_eq, ex_ex, ex_raise, ex_pass, kTry_exc, kTry_nx, kTry_rt, ex_try, kFors_eq, ex_fors, ex_whl, k3stx_eq, kFz_f, k2stx_eq, k1stx_eq, ex_setIx, k2stf_eq, k1stf_eq, ex_setFld, bk_nil, bk_cons, env0, leave_rt, leave_exc, cmpS, cmpop, binop, intsOf, g_true, allF, bindT, wipeE, okd_int, FV.toInt?, farB, d__law_far]
  simp [bind_ok, bind_exc, fr_ok, fr_exc, frI_ok, frI_exc, tst_ok, tst_exc, of_some, s_ok, s_exc, sb_nx, sb_rt, sb_exc, so_some, g_true, kGet_some, ev_v, ev_k, k2bin_eq, k1bin_eq, ev_bin, k2cmp_eq, k1cmp_eq, ev_cmp, k2ix_eq, k1ix_eq, ev_ix, k2dget_eq, k1dget_eq, ev_dget, k2din_eq, k1din_eq, ev_din, k2dnot_eq, k1dnot_eq, ev_dnot, k2cutTo_eq, k1cutTo_eq, ev_cutTo, k2cutFrom_eq, k1cutFrom_eq, ev_cutFrom, k1and_eq, ev_and, k1or_eq, ev_or, k1not_eq, ev_not, k1neg_eq, ev_neg, k1ite_eq, ev_ite, k4chain_eq, k3chain_eq, k2chain_eq, k1chain_eq, ev_chain, k1tup_eq, ev_tup, k1lst_eq, ev_lst, k1mlst_eq, ev_mlst, k1mdic_eq, ev_mdic, ev_call, k1blt_eq, ev_blt, k2meth_eq, k1meth_eq, ev_meth, k1make_eq, ev_make, k2make_ok, k2make_exc, k1fld_eq, ev_fld, k1isi_eq, ev_isi, k2bm_eq, k1bm_eq, ev_bm, k3cut_eq, k2cuti_eq, k2cut_eq, k1cut_eq, ev_cut, kElt_f, kLst_eq, kLcB_some, kLcT_eq, kLc_eq, ev_lc, kIfF_eq, kLcIfB_some, kLcIfT_eq, kLcIf_eq, ev_lcIf, k2es_eq, k1es_eq, es_nil, es_cons, kSeq_eq, it_seq, kRange_eq, it_range, k3rangeS_eq, k2rangeS_eq, k1rangeS_eq, it_rangeS, kEnum_lst, kEnum_scr, it_enum, kZip_lst, k1zip_eq, it_zip, kSet_eq, ex_set, kNx_eq, kUnp_f, ex_unp, k2par_eq, k1par_eq, ex_par, k2app_eq, k1app_eq, ex_app, kIf_b, ex_ifs, kRt_eq, ex_ret, kEx_eq, ex_ex, ex_raise, ex_pass, kTry_exc, kTry_nx, kTry_rt, ex_try, kFors_eq, ex_fors, ex_whl, k3stx_eq, kFz_f, k2stx_eq, k1stx_eq, ex_setIx, k2stf_eq, k1stf_eq, ex_setFld, bk_nil, bk_cons, env0, leave_rt, leave_exc, cmpS, cmpop, binop, intsOf, g_true, allF, bindT, wipeE, okd_int, FV.toInt?, kFor_eq, farO, farT, encO_node, encO_leaf, encT_node, encT_num, bi]
theorem far_loop (W n : Nat) (e0 : Option PV) (st : Store) : ∀ (j i : Nat) (a : Int) (e4 : Option PV), ∃ f4, forL (kFor subc (run subc W prog n) W [4] farB) (rangeL a 1 j) [e0, some (.f (encO (farO i))), some (.f (encT (farT 1 i))), some (.f (encT (farT 2 i))), e4] st =
    .nx [e0, some (.f (encO (farO (i + j)))), some (.f (encT (farT 1 (i + j)))), some (.f (encT (farT 2 (i + j)))), f4] st
  | 0, i, a, e4 => ⟨e4, rfl⟩
  | j + 1, i, a, e4 => by
    obtain ⟨f4, q⟩ := far_loop W n e0 st j (i + 1) (a + 1) (some (.f (.int a)))
    refine ⟨f4, ?_⟩
    show forL _ (.int a :: rangeL (a + 1) 1 j) _ _ = _
    rw [forL_cons, far_turn, sb_nx, q, show i + 1 + j = i + (j + 1) by omega]
def farP (m : Int) : Own × Told × Told := if m % 2 = 0 then (.node own01 (farO (2 + (m / 2 % 30).toNat)), .node 0 (.num 0) (farT 1 (2 + (m / 2 % 30).toNat)), .node 0 (.num 0) (farT 2 (2 + (m / 2 % 30).toNat)))
  else (.node (farO (2 + (m / 2 % 30).toNat)) own01, .node 0 (farT 1 (2 + (m / 2 % 30).toNat)) (.num 0), .node 0 (farT 2 (2 + (m / 2 % 30).toNat)) (.num 0))
theorem far_ok (W n : Nat) (m : Int) (st : Store) : run subc W prog (n + 1) 45 [.f (.int m)] st = .ok (.f (.tup [encO (farP m).1, encT (farP m).2.1, encT (farP m).2.2])) st := by
  have h0 : 0 ≤ m / 2 % 30 := Int.emod_nonneg _ (by decide)
  have h30 : m / 2 % 30 < 30 := Int.emod_lt_of_pos _ (by decide)
  obtain ⟨f4, lp⟩ := far_loop W n (some (.f (.int m))) st (2 + m / 2 % 30).toNat 0 0 none
  have lp' : kFors subc (run subc W prog n) W [4] farB [some (.f (.int m)), some (.f (.int 1)), some (.f (.int 1)), some (.f (.int 2)), none] (rangeL 0 1 (2 + m / 2 % 30).toNat) st = _ := lp
  have tk : (2 + m / 2 % 30).toNat = 2 + (m / 2 % 30).toNat := by omega
  have tk2 : 0 + (2 + m / 2 % 30).toNat = 2 + (m / 2 % 30).toNat := by omega
  rw [tk2] at lp'
  simp only [farB, d__law_far] at lp'
  have hr : g (decide (-(2 ^ 62) ≤ 2 + m / 2 % 30 ∧ 2 + m / 2 % 30 < 2 ^ 62)) (rangeL 0 1 (2 + m / 2 % 30).toNat) = some (rangeL 0 1 (2 + m / 2 % 30).toNat) := by
    rw [decide_eq_true (by omega)]
    rfl
  have kr : ∀ st, kRange subc (run subc W prog n) (.int (2 + m / 2 % 30)) st = .ok (rangeL 0 1 (2 + m / 2 % 30).toNat) st := by
    intro st
    rw [kRange_eq]
    show R.of (g _ _) st = _
    rw [hr]
    rfl
  rw [run_succ (d := d__law_far) rfl rfl]
  unfold farP
  by_cases c : m % 2 = 0
  · rw [if_pos c]
    simp [bind_ok, bind_exc, fr_ok, fr_exc, frI_ok, frI_exc, tst_ok, tst_exc, of_some, s_ok, s_exc, sb_nx, sb_rt, sb_exc, so_some, g_true, kGet_some, ev_v, ev_k, k2bin_eq, k1bin_eq, ev_bin, k2cmp_eq, k1cmp_eq, ev_cmp, k2ix_eq, k1ix_eq, ev_ix, k2dget_eq, k1dget_eq, ev_dget, k2din_eq, k1din_eq, ev_din, k2dnot_eq, k1dnot_eq, ev_dnot, k2cutTo_eq, k1cutTo_eq, ev_cutTo, k2cutFrom_eq, k1cutFrom_eq, ev_cutFrom, k1and_eq, ev_and, k1or_eq, ev_or, k1not_eq, ev_not, k1neg_eq, ev_neg, k1ite_eq, ev_ite, k4chain_eq, k3chain_eq, k2chain_eq, k1chain_eq, ev_chain, k1tup_eq, ev_tup, k1lst_eq, ev_lst, k1mlst_eq, ev_mlst, k1mdic_eq, ev_mdic, ev_call, k1blt_eq, ev_blt, k2meth_eq, k1meth_eq, ev_meth, k1make_eq, ev_make, k2make_ok, k2make_exc, k1fld_eq, ev_fld, k1isi_eq, ev_isi, k2bm_eq, k1bm_eq, ev_bm, k3cut_eq, k2cuti_eq, k2cut_eq, k1cut_eq, ev_cut, kElt_f, kLst_eq, kLcB_some, kLcT_eq, kLc_eq, ev_lc, kIfF_eq, kLcIfB_some, kLcIfT_eq, kLcIf_eq, ev_lcIf, k2es_eq, k1es_eq, es_nil, es_cons, kSeq_eq, it_seq, kRange_eq, it_range, k3rangeS_eq, k2rangeS_eq, k1rangeS_eq, it_rangeS, kEnum_lst, kEnum_scr, it_enum, kZip_lst, k1zip_eq, it_zip, kSet_eq, ex_set, kNx_eq, kUnp_f, ex_unp, k2par_eq, k1par_eq, ex_par, k2app_eq, k1app_eq, ex_app, kIf_b, ex_ifs, kRt_eq, ex_ret, kEx_eq, ex_ex, ex_raise, ex_pass, kTry_exc, kTry_nx, kTry_rt, ex_try, kFors_eq, ex_fors, ex_whl, k3stx_eq, kFz_f, k2stx_eq, k1stx_eq, ex_setIx, k2stf_eq, k1stf_eq, ex_setFld, bk_nil, bk_cons, env0, leave_rt, leave_exc, cmpS, cmpop, binop, intsOf, g_true, allF, bindT, wipeE, okd_int, FV.toInt?, d__law_far, -kRange_eq, kr, -kFors_eq, lp', FV.eqv, c, encO_node, encT_node, encT_num, own01, encO_leaf, bi]
  · rw [if_neg c]
    simp [bind_ok, bind_exc, fr_ok, fr_exc, frI_ok, frI_exc, tst_ok, tst_exc, of_some, s_ok, s_exc, sb_nx, sb_rt, sb_exc, so_some, g_true, kGet_some, ev_v, ev_k, k2bin_eq, k1bin_eq, ev_bin, k2cmp_eq, k1cmp_eq, ev_cmp, k2ix_eq, k1ix_eq, ev_ix, k2dget_eq, k1dget_eq, ev_dget, k2din_eq, k1din_eq, ev_din, k2dnot_eq, k1dnot_eq, ev_dnot, k2cutTo_eq, k1cutTo_eq, ev_cutTo, k2cutFrom_eq, k1cutFrom_eq, ev_cutFrom, k1and_eq, ev_and, k1or_eq, ev_or, k1not_eq, ev_not, k1neg_eq, ev_neg, k1ite_eq, ev_ite, k4chain_eq, k3chain_eq, k2chain_eq, k1chain_eq, ev_chain, k1tup_eq, ev_tup, k1lst_eq, ev_lst, k1mlst_eq, ev_mlst, k1mdic_eq, ev_mdic, ev_call, k1blt_eq, ev_blt, k2meth_eq, k1meth_eq, ev_meth, k1make_eq, ev_make, k2make_ok, k2make_exc, k1fld_eq, ev_fld, k1isi_eq, ev_isi, k2bm_eq, k1bm_eq, ev_bm, k3cut_eq, k2cuti_eq, k2cut_eq, k1cut_eq, ev_cut, kElt_f, kLst_eq, kLcB_some, kLcT_eq, kLc_eq, ev_lc, kIfF_eq, kLcIfB_some, kLcIfT_eq, kLcIf_eq, ev_lcIf, k2es_eq, k1es_eq, es_nil, es_cons, kSeq_eq, it_seq, kRange_eq, it_range, k3rangeS_eq, k2rangeS_eq, k1rangeS_eq, it_rangeS, kEnum_lst, kEnum_scr, it_enum, kZip_lst, k1zip_eq, it_zip, kSet_eq, ex_set, kNx_eq, kUnp_f, ex_unp, k2par_eq, k1par_eq, ex_par, k2app_eq, k1app_eq, ex_app, kIf_b, ex_ifs, kRt_eq, ex_ret, kEx_eq, ex_ex, ex_raise, ex_pass, kTry_exc, kTry_nx, kTry_rt, ex_try, kFors_eq, ex_fors, ex_whl, k3stx_eq, kFz_f, k2stx_eq, k1stx_eq, ex_setIx, k2stf_eq, k1stf_eq, ex_setFld, bk_nil, bk_cons, env0, leave_rt, leave_exc, cmpS, cmpop, binop, intsOf, g_true, allF, bindT, wipeE, okd_int, FV.toInt?, d__law_far, -kRange_eq, kr, -kFors_eq, lp', FV.eqv, c, encO_node, encT_node, encT_num, own01, encO_leaf, bi]
theorem farP_spec (m : Int) : (farP m).1.Nf ∧ (farP m).1 ≠ .leaf false ∧ (farP m).1.depth ≤ 33 ∧ (farP m).2.1.Norm ∧ (farP m).2.1.depth ≤ 33 ∧ (farP m).2.2.depth ≤ 33 ∧ Told.fill (farP m).1 (farP m).2.1 = (farP m).2.1 ∧ Told.grow (farP m).1 (farP m).2.1 = (farP m).2.2 := by
  have h0 : 0 ≤ m / 2 % 30 := Int.emod_nonneg _ (by decide)
  have h30 : m / 2 % 30 < 30 := Int.emod_lt_of_pos _ (by decide)
  obtain ⟨k, hk⟩ : ∃ k, 2 + (m / 2 % 30).toNat = k + 1 := ⟨1 + (m / 2 % 30).toNat, by omega⟩
  have k31 : k + 1 ≤ 31 := by omega
  have k2 : 1 ≤ k := by omega
  have od := farO_depth (k + 1)
  have t1 := farT_depth 1 (k + 1)
  have t2 := farT_depth 2 (k + 1)
  have o1 : own01.depth = 1 := rfl
  have hne : farO (k + 1) ≠ own01 := by
    intro q
    have := congrArg Own.depth q
    rw [od, o1] at this
    omega
  have e1 := farEven k (by omega)
  have e2 := farOdd k (by omega)
  have b1 := farT_base (c := 1) (by decide) (k + 1)
  have n1 := farT_norm (c := 1) (by decide) (k + 1)
  have ne1 := farT_ne (c := 1) (by decide) (k + 1)
  have fo := farO_nf (k + 1)
  unfold farP
  rw [hk]
  split
  · refine ⟨⟨own01_nf, fo, fun q => hne q.1.symm⟩, by simp, ?_, ⟨trivial, n1, by show min 0 _ = (0 : Int); omega, fun q => ne1 q.1.symm⟩, ?_, ?_, e1.1, e1.2⟩
    · show max own01.depth (farO (k + 1)).depth + 1 ≤ 33; omega
    · show max 0 (farT 1 (k + 1)).depth + 1 ≤ 33; omega
    · show max 0 (farT 2 (k + 1)).depth + 1 ≤ 33; omega
  · refine ⟨⟨fo, own01_nf, fun q => hne q.1⟩, by simp, ?_, ⟨n1, trivial, by show min _ 0 = (0 : Int); omega, fun q => ne1 q.1⟩, ?_, ?_, e2.1, e2.2⟩
    · show max (farO (k + 1)).depth own01.depth + 1 ≤ 33; omega
    · show max (farT 1 (k + 1)).depth 0 + 1 ≤ 33; omega
    · show max (farT 2 (k + 1)).depth 0 + 1 ≤ 33; omega
def lawB : Bk := match d_law.body with
  | .cons (.fors _ _ b) _ => b
  | _ => .nil
def lawR : Bk := match lawB with
  | .cons _ (.cons _ (.cons _ (.cons _ (.cons _ b)))) => b
  | _ => .nil
def hdB : Bk → S
  | .cons s _ => s
  | .nil => .pass
def tlB : Bk → Bk
  | .cons _ b => b
  | .nil => .nil
theorem lawB_eq : lawB = .cons (hdB lawB) (.cons (hdB (tlB lawB)) (.cons (hdB (tlB (tlB lawB))) (.cons (hdB (tlB (tlB (tlB lawB)))) (.cons (hdB (tlB (tlB (tlB (tlB lawB))))) lawR)))) := rfl
theorem rest_ok (W n : Nat) (hn : 45 ≤ n) (o : Own) (ns : List Int) (mx : Int) (hl : ns.length = 2 ^ 3) (hN : o.Nf) (ho : o.depth ≤ 3) (e0 e1 e2 e5 e7 e8 e9 e10 : Option PV) (st : Store) :
    ∃ f7 f8 f9 f10, exB subc (run subc W prog n) W lawR [e0, e1, e2, some (.f (.int mx)), some (.f (encO o)), e5, some (.f (.lst (nums ns))), e7, e8, e9, e10] st =
      .nx [e0, e1, e2, some (.f (.int mx)), some (.f (encO o)), e5, some (.f (.lst (nums ns))), f7, f8, f9, f10] st := by
  obtain ⟨m, rfl⟩ : ∃ m, n = m + 2 := ⟨n - 2, by omega⟩
  have lF := lfill_length o 3 ns hl
  have hfill := fill_toldOf o 3 ns hl
  have tN := norm_toldOf 3 ns hl
  have tD := toldOf_depth 3 ns
  have x1 := fun st => toldOf_ok (sub := subc) (P := prog) rfl W (m + 2) 3 ns st (by omega) hl (by decide)
  have x2 := fun st => lfilled_ok W (m + 2) o 3 ns st (by omega) (by omega) hl (by decide)
  have x3 := fun st => filled_ok (sub := subc) (P := prog) rfl rfl rfl rfl rfl rfl rfl W (m + 2) o (toldOf 3 ns) st (by omega) (by omega) (by omega)
  have x4 := fun st => toldOf_ok (sub := subc) (P := prog) rfl W (m + 2) 3 (lfill o ns) st (by omega) lF (by decide)
  have x5 := fun st => refused_ok W m (toldOf 3 ns) st
  have x6 := fun st => far_ok W (m + 1) (mx / 14) st
  obtain ⟨a1, a2, a3, a4, a5, a6, a7, a8⟩ := farP_spec (mx / 14)
  generalize (farP (mx / 14)).1 = fo at *
  generalize (farP (mx / 14)).2.1 = ft at *
  generalize (farP (mx / 14)).2.2 = fd at *
  have x7 := fun st => grown_ok (sub := subc) (P := prog) rfl rfl rfl rfl rfl rfl rfl W (m + 2) fo ft st (by omega) (by omega) a1 a2 a4 a7
  have x8 := fun st => raised_ok (sub := subc) (P := prog) rfl rfl rfl rfl rfl rfl rfl rfl rfl rfl rfl W (m + 1) fo ft st (by omega) (by omega) a1 a2 a4
  have rr : Told.raise fo ft = fd := by unfold Told.raise; rw [if_pos a7, a8]
  rw [a8] at x7
  rw [rr] at x8
  have okd : (encT fd).okd = true := encT_okd (by omega)
  have eqd : (encT fd).eqv (encT fd) = true := by rw [encT_eqv]; simp
  have oko : (encO o).okd = true := encO_okd (by omega)
  have e0' := eqv0 o
  rw [hfill] at x3
  have fD := toldOf_depth 3 (lfill o ns)
  have okF : (encT (toldOf 3 (lfill o ns))).okd = true := encT_okd (by omega)
  have eqF : (encT (toldOf 3 (lfill o ns))).eqv (encT (toldOf 3 (lfill o ns))) = true := by rw [encT_eqv]; simp
  have three : ∀ (x y z : FV) (st : Store), ixS st (.f (.tup [x, y, z])) (.int 0) = some (.f x) ∧ ixS st (.f (.tup [x, y, z])) (.int 1) = some (.f y) ∧ ixS st (.f (.tup [x, y, z])) (.int 2) = some (.f z) := fun _ _ _ _ => ⟨rfl, rfl, rfl⟩
  have okn1 := okd_nums ns
  have okn2 := okd_nums (lfill o ns)
  have eqn := eqv_nums (lfill o ns) ns
  by_cases z : o = .leaf false
  · rw [decide_eq_true z] at e0'
    simp only [bind_ok, bind_exc, fr_ok, fr_exc, frI_ok, frI_exc, tst_ok, tst_exc, of_some, s_ok, s_exc, sb_nx, sb_rt, sb_exc, so_some, g_true, kGet_some, ev_v, ev_k, k2bin_eq, k1bin_eq, ev_bin, k2cmp_eq, k1cmp_eq, ev_cmp, k2ix_eq, k1ix_eq, ev_ix, k2dget_eq, k1dget_eq, ev_dget, k2din_eq, k1din_eq, ev_din, k2dnot_eq, k1dnot_eq, ev_dnot, k2cutTo_eq, k1cutTo_eq, ev_cutTo, k2cutFrom_eq, k1cutFrom_eq, ev_cutFrom, k1and_eq, ev_and, k1or_eq, ev_or, k1not_eq, ev_not, k1neg_eq, ev_neg, k1ite_eq, ev_ite, k4chain_eq, k3chain_eq, k2chain_eq, k1chain_eq, ev_chain, k1tup_eq, ev_tup, k1lst_eq, ev_lst, k1mlst_eq, ev_mlst, k1mdic_eq, ev_mdic, ev_call, k1blt_eq, ev_blt, k2meth_eq, k1meth_eq, ev_meth, k1make_eq, ev_make, k2make_ok, k2make_exc, k1fld_eq, ev_fld, k1isi_eq, ev_isi, k2bm_eq, k1bm_eq, ev_bm, k3cut_eq, k2cuti_eq, k2cut_eq, k1cut_eq, ev_cut, kElt_f, kLst_eq, kLcB_some, kLcT_eq, kLc_eq, ev_lc, kIfF_eq, kLcIfB_some, kLcIfT_eq, kLcIf_eq, ev_lcIf, k2es_eq, k1es_eq, es_nil, es_cons, kSeq_eq, it_seq, kRange_eq, it_range, k3rangeS_eq, k2rangeS_eq, k1rangeS_eq, it_rangeS, kEnum_lst, kEnum_scr, it_enum, kZip_lst, k1zip_eq, it_zip, kSet_eq, ex_set, kNx_eq, kUnp_f, ex_unp, k2par_eq, k1par_eq, ex_par, k2app_eq, k1app_eq, ex_app, kIf_b, ex_ifs, kRt_eq, ex_ret, kEx_eq, ex_ex, ex_raise, ex_pass, kTry_exc, kTry_nx, kTry_rt, ex_try, kFors_eq, ex_fors, ex_whl, k3stx_eq, kFz_f, k2stx_eq, k1stx_eq, ex_setIx, k2stf_eq, k1stf_eq, ex_setFld, bk_nil, bk_cons, env0, leave_rt, leave_exc, cmpS, cmpop, binop, intsOf, g_true, allF, bindT, wipeE, okd_int, FV.toInt?, lawR, lawB, d_law]
    simp [bind_ok, bind_exc, fr_ok, fr_exc, frI_ok, frI_exc, tst_ok, tst_exc, of_some, s_ok, s_exc, sb_nx, sb_rt, sb_exc, so_some, g_true, kGet_some, ev_v, ev_k, k2bin_eq, k1bin_eq, ev_bin, k2cmp_eq, k1cmp_eq, ev_cmp, k2ix_eq, k1ix_eq, ev_ix, k2dget_eq, k1dget_eq, ev_dget, k2din_eq, k1din_eq, ev_din, k2dnot_eq, k1dnot_eq, ev_dnot, k2cutTo_eq, k1cutTo_eq, ev_cutTo, k2cutFrom_eq, k1cutFrom_eq, ev_cutFrom, k1and_eq, ev_and, k1or_eq, ev_or, k1not_eq, ev_not, k1neg_eq, ev_neg, k1ite_eq, ev_ite, k4chain_eq, k3chain_eq, k2chain_eq, k1chain_eq, ev_chain, k1tup_eq, ev_tup, k1lst_eq, ev_lst, k1mlst_eq, ev_mlst, k1mdic_eq, ev_mdic, ev_call, k1blt_eq, ev_blt, k2meth_eq, k1meth_eq, ev_meth, k1make_eq, ev_make, k2make_ok, k2make_exc, k1fld_eq, ev_fld, k1isi_eq, ev_isi, k2bm_eq, k1bm_eq, ev_bm, k3cut_eq, k2cuti_eq, k2cut_eq, k1cut_eq, ev_cut, kElt_f, kLst_eq, kLcB_some, kLcT_eq, kLc_eq, ev_lc, kIfF_eq, kLcIfB_some, kLcIfT_eq, kLcIf_eq, ev_lcIf, k2es_eq, k1es_eq, es_nil, es_cons, kSeq_eq, it_seq, kRange_eq, it_range, k3rangeS_eq, k2rangeS_eq, k1rangeS_eq, it_rangeS, kEnum_lst, kEnum_scr, it_enum, kZip_lst, k1zip_eq, it_zip, kSet_eq, ex_set, kNx_eq, kUnp_f, ex_unp, k2par_eq, k1par_eq, ex_par, k2app_eq, k1app_eq, ex_app, kIf_b, ex_ifs, kRt_eq, ex_ret, kEx_eq, ex_ex, ex_raise, ex_pass, kTry_exc, kTry_nx, kTry_rt, ex_try, kFors_eq, ex_fors, ex_whl, k3stx_eq, kFz_f, k2stx_eq, k1stx_eq, ex_setIx, k2stf_eq, k1stf_eq, ex_setFld, bk_nil, bk_cons, env0, leave_rt, leave_exc, cmpS, cmpop, binop, intsOf, g_true, allF, bindT, wipeE, okd_int, FV.toInt?, x1, x2, x3, x4, x5, x6, x7, x8, okd, eqd, oko, e0', okF, eqF, three, -exists_and_left, -exists_and_right]
    exact ⟨_, _, _, _, rfl, rfl, rfl, rfl⟩
  · rw [decide_eq_false z] at e0'
    have x9 := fun st => raised_ok (sub := subc) (P := prog) rfl rfl rfl rfl rfl rfl rfl rfl rfl rfl rfl W (m + 1) o (toldOf 3 ns) st (by omega) (by omega) hN z tN
    by_cases q : lfill o ns = ns
    · rw [decide_eq_true q] at eqn
      have hfix : Told.fill o (toldOf 3 ns) = toldOf 3 ns := by rw [hfill, q]
      have hg := grow_toldOf o 3 ns ho hl hfix z hN
      have y1 := fun st => lgrown_ok W (m + 1) o 3 ns st (by omega) ho hl (by decide) z hN
      have y2 := fun st => toldOf_ok (sub := subc) (P := prog) rfl W (m + 2) 3 (bump (pick o 3 ns).1 (pick o 3 ns).2 0 ns) st (by omega) (by rw [bump_length, hl]) (by decide)
      have y3 := fun st => grown_ok (sub := subc) (P := prog) rfl rfl rfl rfl rfl rfl rfl W (m + 2) o (toldOf 3 ns) st (by omega) (by omega) hN z tN hfix
      have hr : Told.raise o (toldOf 3 ns) = toldOf 3 (bump (pick o 3 ns).1 (pick o 3 ns).2 0 ns) := by unfold Told.raise; rw [if_pos hfix, hg]
      rw [hr] at x9
      rw [hg] at y3
      have bD := toldOf_depth 3 (bump (pick o 3 ns).1 (pick o 3 ns).2 0 ns)
      have okB : (encT (toldOf 3 (bump (pick o 3 ns).1 (pick o 3 ns).2 0 ns))).okd = true := encT_okd (by omega)
      have eqB : (encT (toldOf 3 (bump (pick o 3 ns).1 (pick o 3 ns).2 0 ns))).eqv (encT (toldOf 3 (bump (pick o 3 ns).1 (pick o 3 ns).2 0 ns))) = true := by rw [encT_eqv]; simp
      generalize bump (pick o 3 ns).1 (pick o 3 ns).2 0 ns = bb at *
      simp only [bind_ok, bind_exc, fr_ok, fr_exc, frI_ok, frI_exc, tst_ok, tst_exc, of_some, s_ok, s_exc, sb_nx, sb_rt, sb_exc, so_some, g_true, kGet_some, ev_v, ev_k, k2bin_eq, k1bin_eq, ev_bin, k2cmp_eq, k1cmp_eq, ev_cmp, k2ix_eq, k1ix_eq, ev_ix, k2dget_eq, k1dget_eq, ev_dget, k2din_eq, k1din_eq, ev_din, k2dnot_eq, k1dnot_eq, ev_dnot, k2cutTo_eq, k1cutTo_eq, ev_cutTo, k2cutFrom_eq, k1cutFrom_eq, ev_cutFrom, k1and_eq, ev_and, k1or_eq, ev_or, k1not_eq, ev_not, k1neg_eq, ev_neg, k1ite_eq, ev_ite, k4chain_eq, k3chain_eq, k2chain_eq, k1chain_eq, ev_chain, k1tup_eq, ev_tup, k1lst_eq, ev_lst, k1mlst_eq, ev_mlst, k1mdic_eq, ev_mdic, ev_call, k1blt_eq, ev_blt, k2meth_eq, k1meth_eq, ev_meth, k1make_eq, ev_make, k2make_ok, k2make_exc, k1fld_eq, ev_fld, k1isi_eq, ev_isi, k2bm_eq, k1bm_eq, ev_bm, k3cut_eq, k2cuti_eq, k2cut_eq, k1cut_eq, ev_cut, kElt_f, kLst_eq, kLcB_some, kLcT_eq, kLc_eq, ev_lc, kIfF_eq, kLcIfB_some, kLcIfT_eq, kLcIf_eq, ev_lcIf, k2es_eq, k1es_eq, es_nil, es_cons, kSeq_eq, it_seq, kRange_eq, it_range, k3rangeS_eq, k2rangeS_eq, k1rangeS_eq, it_rangeS, kEnum_lst, kEnum_scr, it_enum, kZip_lst, k1zip_eq, it_zip, kSet_eq, ex_set, kNx_eq, kUnp_f, ex_unp, k2par_eq, k1par_eq, ex_par, k2app_eq, k1app_eq, ex_app, kIf_b, ex_ifs, kRt_eq, ex_ret, kEx_eq, ex_ex, ex_raise, ex_pass, kTry_exc, kTry_nx, kTry_rt, ex_try, kFors_eq, ex_fors, ex_whl, k3stx_eq, kFz_f, k2stx_eq, k1stx_eq, ex_setIx, k2stf_eq, k1stf_eq, ex_setFld, bk_nil, bk_cons, env0, leave_rt, leave_exc, cmpS, cmpop, binop, intsOf, g_true, allF, bindT, wipeE, okd_int, FV.toInt?, lawR, lawB, d_law]
      simp [bind_ok, bind_exc, fr_ok, fr_exc, frI_ok, frI_exc, tst_ok, tst_exc, of_some, s_ok, s_exc, sb_nx, sb_rt, sb_exc, so_some, g_true, kGet_some, ev_v, ev_k, k2bin_eq, k1bin_eq, ev_bin, k2cmp_eq, k1cmp_eq, ev_cmp, k2ix_eq, k1ix_eq, ev_ix, k2dget_eq, k1dget_eq, ev_dget, k2din_eq, k1din_eq, ev_din, k2dnot_eq, k1dnot_eq, ev_dnot, k2cutTo_eq, k1cutTo_eq, ev_cutTo, k2cutFrom_eq, k1cutFrom_eq, ev_cutFrom, k1and_eq, ev_and, k1or_eq, ev_or, k1not_eq, ev_not, k1neg_eq, ev_neg, k1ite_eq, ev_ite, k4chain_eq, k3chain_eq, k2chain_eq, k1chain_eq, ev_chain, k1tup_eq, ev_tup, k1lst_eq, ev_lst, k1mlst_eq, ev_mlst, k1mdic_eq, ev_mdic, ev_call, k1blt_eq, ev_blt, k2meth_eq, k1meth_eq, ev_meth, k1make_eq, ev_make, k2make_ok, k2make_exc, k1fld_eq, ev_fld, k1isi_eq, ev_isi, k2bm_eq, k1bm_eq, ev_bm, k3cut_eq, k2cuti_eq, k2cut_eq, k1cut_eq, ev_cut, kElt_f, kLst_eq, kLcB_some, kLcT_eq, kLc_eq, ev_lc, kIfF_eq, kLcIfB_some, kLcIfT_eq, kLcIf_eq, ev_lcIf, k2es_eq, k1es_eq, es_nil, es_cons, kSeq_eq, it_seq, kRange_eq, it_range, k3rangeS_eq, k2rangeS_eq, k1rangeS_eq, it_rangeS, kEnum_lst, kEnum_scr, it_enum, kZip_lst, k1zip_eq, it_zip, kSet_eq, ex_set, kNx_eq, kUnp_f, ex_unp, k2par_eq, k1par_eq, ex_par, k2app_eq, k1app_eq, ex_app, kIf_b, ex_ifs, kRt_eq, ex_ret, kEx_eq, ex_ex, ex_raise, ex_pass, kTry_exc, kTry_nx, kTry_rt, ex_try, kFors_eq, ex_fors, ex_whl, k3stx_eq, kFz_f, k2stx_eq, k1stx_eq, ex_setIx, k2stf_eq, k1stf_eq, ex_setFld, bk_nil, bk_cons, env0, leave_rt, leave_exc, cmpS, cmpop, binop, intsOf, g_true, allF, bindT, wipeE, okd_int, FV.toInt?, x1, x2, x3, x4, x5, x6, x7, x8, okd, eqd, oko, e0', okF, eqF, three, okn1, okn2, eqn, x9, y1, y2, y3, okB, eqB, -exists_and_left, -exists_and_right]
      exact ⟨_, _, _, _, rfl, rfl, rfl, rfl⟩
    · rw [decide_eq_false q] at eqn
      have hnf : Told.fill o (toldOf 3 ns) ≠ toldOf 3 ns := by
        rw [hfill]
        exact fun h => q (toldOf_inj lF hl h)
      have hr : Told.raise o (toldOf 3 ns) = toldOf 3 (lfill o ns) := by unfold Told.raise; rw [if_neg hnf, hfill]
      rw [hr] at x9
      simp only [bind_ok, bind_exc, fr_ok, fr_exc, frI_ok, frI_exc, tst_ok, tst_exc, of_some, s_ok, s_exc, sb_nx, sb_rt, sb_exc, so_some, g_true, kGet_some, ev_v, ev_k, k2bin_eq, k1bin_eq, ev_bin, k2cmp_eq, k1cmp_eq, ev_cmp, k2ix_eq, k1ix_eq, ev_ix, k2dget_eq, k1dget_eq, ev_dget, k2din_eq, k1din_eq, ev_din, k2dnot_eq, k1dnot_eq, ev_dnot, k2cutTo_eq, k1cutTo_eq, ev_cutTo, k2cutFrom_eq, k1cutFrom_eq, ev_cutFrom, k1and_eq, ev_and, k1or_eq, ev_or, k1not_eq, ev_not, k1neg_eq, ev_neg, k1ite_eq, ev_ite, k4chain_eq, k3chain_eq, k2chain_eq, k1chain_eq, ev_chain, k1tup_eq, ev_tup, k1lst_eq, ev_lst, k1mlst_eq, ev_mlst, k1mdic_eq, ev_mdic, ev_call, k1blt_eq, ev_blt, k2meth_eq, k1meth_eq, ev_meth, k1make_eq, ev_make, k2make_ok, k2make_exc, k1fld_eq, ev_fld, k1isi_eq, ev_isi, k2bm_eq, k1bm_eq, ev_bm, k3cut_eq, k2cuti_eq, k2cut_eq, k1cut_eq, ev_cut, kElt_f, kLst_eq, kLcB_some, kLcT_eq, kLc_eq, ev_lc, kIfF_eq, kLcIfB_some, kLcIfT_eq, kLcIf_eq, ev_lcIf, k2es_eq, k1es_eq, es_nil, es_cons, kSeq_eq, it_seq, kRange_eq, it_range, k3rangeS_eq, k2rangeS_eq, k1rangeS_eq, it_rangeS, kEnum_lst, kEnum_scr, it_enum, kZip_lst, k1zip_eq, it_zip, kSet_eq, ex_set, kNx_eq, kUnp_f, ex_unp, k2par_eq, k1par_eq, ex_par, k2app_eq, k1app_eq, ex_app, kIf_b, ex_ifs, kRt_eq, ex_ret, kEx_eq, ex_ex, ex_raise, ex_pass, kTry_exc, kTry_nx, kTry_rt, ex_try, kFors_eq, ex_fors, ex_whl, k3stx_eq, kFz_f, k2stx_eq, k1stx_eq, ex_setIx, k2stf_eq, k1stf_eq, ex_setFld, bk_nil, bk_cons, env0, leave_rt, leave_exc, cmpS, cmpop, binop, intsOf, g_true, allF, bindT, wipeE, okd_int, FV.toInt?, lawR, lawB, d_law]
      simp [bind_ok, bind_exc, fr_ok, fr_exc, frI_ok, frI_exc, tst_ok, tst_exc, of_some, s_ok, s_exc, sb_nx, sb_rt, sb_exc, so_some, g_true, kGet_some, ev_v, ev_k, k2bin_eq, k1bin_eq, ev_bin, k2cmp_eq, k1cmp_eq, ev_cmp, k2ix_eq, k1ix_eq, ev_ix, k2dget_eq, k1dget_eq, ev_dget, k2din_eq, k1din_eq, ev_din, k2dnot_eq, k1dnot_eq, ev_dnot, k2cutTo_eq, k1cutTo_eq, ev_cutTo, k2cutFrom_eq, k1cutFrom_eq, ev_cutFrom, k1and_eq, ev_and, k1or_eq, ev_or, k1not_eq, ev_not, k1neg_eq, ev_neg, k1ite_eq, ev_ite, k4chain_eq, k3chain_eq, k2chain_eq, k1chain_eq, ev_chain, k1tup_eq, ev_tup, k1lst_eq, ev_lst, k1mlst_eq, ev_mlst, k1mdic_eq, ev_mdic, ev_call, k1blt_eq, ev_blt, k2meth_eq, k1meth_eq, ev_meth, k1make_eq, ev_make, k2make_ok, k2make_exc, k1fld_eq, ev_fld, k1isi_eq, ev_isi, k2bm_eq, k1bm_eq, ev_bm, k3cut_eq, k2cuti_eq, k2cut_eq, k1cut_eq, ev_cut, kElt_f, kLst_eq, kLcB_some, kLcT_eq, kLc_eq, ev_lc, kIfF_eq, kLcIfB_some, kLcIfT_eq, kLcIf_eq, ev_lcIf, k2es_eq, k1es_eq, es_nil, es_cons, kSeq_eq, it_seq, kRange_eq, it_range, k3rangeS_eq, k2rangeS_eq, k1rangeS_eq, it_rangeS, kEnum_lst, kEnum_scr, it_enum, kZip_lst, k1zip_eq, it_zip, kSet_eq, ex_set, kNx_eq, kUnp_f, ex_unp, k2par_eq, k1par_eq, ex_par, k2app_eq, k1app_eq, ex_app, kIf_b, ex_ifs, kRt_eq, ex_ret, kEx_eq, ex_ex, ex_raise, ex_pass, kTry_exc, kTry_nx, kTry_rt, ex_try, kFors_eq, ex_fors, ex_whl, k3stx_eq, kFz_f, k2stx_eq, k1stx_eq, ex_setIx, k2stf_eq, k1stf_eq, ex_setFld, bk_nil, bk_cons, env0, leave_rt, leave_exc, cmpS, cmpop, binop, intsOf, g_true, allF, bindT, wipeE, okd_int, FV.toInt?, x1, x2, x3, x4, x5, x6, x7, x8, okd, eqd, oko, e0', okF, eqF, three, okn1, okn2, eqn, x9, -exists_and_left, -exists_and_right]
      exact ⟨_, _, _, _, rfl, rfl, rfl, rfl⟩
theorem turn_ok (W n : Nat) (hn : 50 ≤ n) (ns : List Int) (s : Nat) (c : Int) (e1 e2 e3 e4 e5 e6 e7 e8 e9 e10 : Option PV) (st : Store) :
    ∃ f1 f2 f3 f4 f5 f6 f7 f8 f9 f10, kFor subc (run subc W prog n) W [1, 2] lawB (.tup [.int s, .int c]) [some (.f (.scr ns)), e1, e2, e3, e4, e5, e6, e7, e8, e9, e10] st = .nx [some (.f (.scr ns)), f1, f2, f3, f4, f5, f6, f7, f8, f9, f10] st := by
  have hs : (0 : Int) ≤ s % 64 := Int.emod_nonneg _ (by decide)
  have hs2 : (s : Int) % 64 < 64 := Int.emod_lt_of_pos _ (by decide)
  obtain ⟨m, rfl⟩ : ∃ m, n = m + 1 := ⟨n - 1, by omega⟩
  have x1 := fun st => mixed_ok (sub := subc) (P := prog) rfl W m c (s % 64) st hs (by omega)
  have x2 := fun st => mixed_ok (sub := subc) (P := prog) rfl W m c (64 + s % 64) st (by omega) (by omega)
  have hm2 := mixed_nn c (64 + s % 64)
  generalize mixed c (s % 64) = mx at *
  generalize mixed c (64 + s % 64) = my at *
  have y1 : ∀ st, run subc W prog (m + 1) 8 [.f (.int mx), .f (.int 3)] st = _ := fun st => own_ok (P := prog) rfl W (m + 1) 3 mx st (by omega)
  have da := genOwn_depth 3 mx
  generalize genOwn 3 mx = ga at *
  have z1 : ∀ st, run subc W prog (m + 1) 9 [.f (encO ga), .f (.int 3)] st = _ := fun st => places_ok (P := prog) rfl W (m + 1) 3 ga st (by omega) da (by omega)
  have la := places_length 3 ga da
  have u1 := fun st => ownOf_ok (sub := subc) (P := prog) rfl W (m + 1) 3 (places 3 ga) st (by omega) la (places_bit 3 ga)
  rw [ownOf_places 3 ga da] at u1
  have na := Own.nf_least ga
  have da' := Nat.le_trans (Own.least_depth ga) da
  generalize ga.least = a at *
  have t1 : ∀ st, run subc W prog (m + 1) 28 [.f (.int c), .f (.int my), .f (.int 3)] st = _ := fun st => tree_ok (P := prog) rfl W (m + 1) 3 c my st (by omega) hm2
  have dt := genTold_depth 3 c my
  generalize genTold 3 c my = gt at *
  have t2 : ∀ st, run subc W prog (m + 1) 29 [.f (encT gt), .f (.int 3)] st = _ := fun st => numbers_ok (P := prog) rfl W (m + 1) 3 gt st (by omega) dt (by decide)
  have hl := tvals_length 3 gt
  have t3 := fun st => lfilled_ok W (m + 1) a 3 (tvals 3 gt) st (by omega) (by omega) hl (by decide)
  have hl2 := lfill_length a 3 (tvals 3 gt) hl
  have fin : ∀ (g7 g8 g9 g10 : Option PV) (ls : List Int), ∃ f1 f2 f3 f4 f5 f6 f7 f8 f9 f10, SR.nx [some (.f (.scr ns)), some (.f (.int s)), some (.f (.int c)), some (.f (.int mx)), some (.f (encO a)), some (.f (encT gt)), some (.f (.lst (nums ls))), g7, g8, g9, g10] st = SR.nx [some (.f (.scr ns)), f1, f2, f3, f4, f5, f6, f7, f8, f9, f10] st := fun g7 g8 g9 g10 ls => ⟨_, _, _, _, _, _, _, _, _, _, rfl⟩
  by_cases q : mx / 7 % 2 = 1
  · obtain ⟨g7, g8, g9, g10, r⟩ := rest_ok W (m + 1) (by omega) a (lfill a (tvals 3 gt)) mx hl2 na da' (some (.f (.scr ns))) (some (.f (.int s))) (some (.f (.int c))) (some (.f (encT gt))) e7 e8 e9 e10 st
    rw [lawB_eq]
    simp only [hdB, tlB, lawB, d_law]
    simp [bind_ok, bind_exc, fr_ok, fr_exc, frI_ok, frI_exc, tst_ok, tst_exc, of_some, s_ok, s_exc, sb_nx, sb_rt, sb_exc, so_some, g_true, kGet_some, ev_v, ev_k, k2bin_eq, k1bin_eq, ev_bin, k2cmp_eq, k1cmp_eq, ev_cmp, k2ix_eq, k1ix_eq, ev_ix, k2dget_eq, k1dget_eq, ev_dget, k2din_eq, k1din_eq, ev_din, k2dnot_eq, k1dnot_eq, ev_dnot, k2cutTo_eq, k1cutTo_eq, ev_cutTo, k2cutFrom_eq, k1cutFrom_eq, ev_cutFrom, k1and_eq, ev_and, k1or_eq, ev_or, k1not_eq, ev_not, k1neg_eq, ev_neg, k1ite_eq, ev_ite, k4chain_eq, k3chain_eq, k2chain_eq, k1chain_eq, ev_chain, k1tup_eq, ev_tup, k1lst_eq, ev_lst, k1mlst_eq, ev_mlst, k1mdic_eq, ev_mdic, ev_call, k1blt_eq, ev_blt, k2meth_eq, k1meth_eq, ev_meth, k1make_eq, ev_make, k2make_ok, k2make_exc, k1fld_eq, ev_fld, k1isi_eq, ev_isi, k2bm_eq, k1bm_eq, ev_bm, k3cut_eq, k2cuti_eq, k2cut_eq, k1cut_eq, ev_cut, kElt_f, kLst_eq, kLcB_some, kLcT_eq, kLc_eq, ev_lc, kIfF_eq, kLcIfB_some, kLcIfT_eq, kLcIf_eq, ev_lcIf, k2es_eq, k1es_eq, es_nil, es_cons, kSeq_eq, it_seq, kRange_eq, it_range, k3rangeS_eq, k2rangeS_eq, k1rangeS_eq, it_rangeS, kEnum_lst, kEnum_scr, it_enum, kZip_lst, k1zip_eq, it_zip, kSet_eq, ex_set, kNx_eq, kUnp_f, ex_unp, k2par_eq, k1par_eq, ex_par, k2app_eq, k1app_eq, ex_app, kIf_b, ex_ifs, kRt_eq, ex_ret, kEx_eq, ex_ex, ex_raise, ex_pass, kTry_exc, kTry_nx, kTry_rt, ex_try, kFors_eq, ex_fors, ex_whl, k3stx_eq, kFz_f, k2stx_eq, k1stx_eq, ex_setIx, k2stf_eq, k1stf_eq, ex_setFld, bk_nil, bk_cons, env0, leave_rt, leave_exc, cmpS, cmpop, binop, intsOf, g_true, allF, bindT, wipeE, okd_int, FV.toInt?, kFor_eq, x1, x2, y1, z1, u1, t1, t2, t3, FV.eqv, q, r, -exists_and_left, -exists_and_right]
    exact ⟨_, _, _, _, _, _, _, _, _, _, rfl, rfl, rfl, rfl, rfl, rfl, rfl, rfl, rfl, rfl⟩
  · obtain ⟨g7, g8, g9, g10, r⟩ := rest_ok W (m + 1) (by omega) a (tvals 3 gt) mx hl na da' (some (.f (.scr ns))) (some (.f (.int s))) (some (.f (.int c))) (some (.f (encT gt))) e7 e8 e9 e10 st
    rw [lawB_eq]
    simp only [hdB, tlB, lawB, d_law]
    simp [bind_ok, bind_exc, fr_ok, fr_exc, frI_ok, frI_exc, tst_ok, tst_exc, of_some, s_ok, s_exc, sb_nx, sb_rt, sb_exc, so_some, g_true, kGet_some, ev_v, ev_k, k2bin_eq, k1bin_eq, ev_bin, k2cmp_eq, k1cmp_eq, ev_cmp, k2ix_eq, k1ix_eq, ev_ix, k2dget_eq, k1dget_eq, ev_dget, k2din_eq, k1din_eq, ev_din, k2dnot_eq, k1dnot_eq, ev_dnot, k2cutTo_eq, k1cutTo_eq, ev_cutTo, k2cutFrom_eq, k1cutFrom_eq, ev_cutFrom, k1and_eq, ev_and, k1or_eq, ev_or, k1not_eq, ev_not, k1neg_eq, ev_neg, k1ite_eq, ev_ite, k4chain_eq, k3chain_eq, k2chain_eq, k1chain_eq, ev_chain, k1tup_eq, ev_tup, k1lst_eq, ev_lst, k1mlst_eq, ev_mlst, k1mdic_eq, ev_mdic, ev_call, k1blt_eq, ev_blt, k2meth_eq, k1meth_eq, ev_meth, k1make_eq, ev_make, k2make_ok, k2make_exc, k1fld_eq, ev_fld, k1isi_eq, ev_isi, k2bm_eq, k1bm_eq, ev_bm, k3cut_eq, k2cuti_eq, k2cut_eq, k1cut_eq, ev_cut, kElt_f, kLst_eq, kLcB_some, kLcT_eq, kLc_eq, ev_lc, kIfF_eq, kLcIfB_some, kLcIfT_eq, kLcIf_eq, ev_lcIf, k2es_eq, k1es_eq, es_nil, es_cons, kSeq_eq, it_seq, kRange_eq, it_range, k3rangeS_eq, k2rangeS_eq, k1rangeS_eq, it_rangeS, kEnum_lst, kEnum_scr, it_enum, kZip_lst, k1zip_eq, it_zip, kSet_eq, ex_set, kNx_eq, kUnp_f, ex_unp, k2par_eq, k1par_eq, ex_par, k2app_eq, k1app_eq, ex_app, kIf_b, ex_ifs, kRt_eq, ex_ret, kEx_eq, ex_ex, ex_raise, ex_pass, kTry_exc, kTry_nx, kTry_rt, ex_try, kFors_eq, ex_fors, ex_whl, k3stx_eq, kFz_f, k2stx_eq, k1stx_eq, ex_setIx, k2stf_eq, k1stf_eq, ex_setFld, bk_nil, bk_cons, env0, leave_rt, leave_exc, cmpS, cmpop, binop, intsOf, g_true, allF, bindT, wipeE, okd_int, FV.toInt?, kFor_eq, x1, x2, y1, z1, u1, t1, t2, t3, FV.eqv, q, r, -exists_and_left, -exists_and_right]
    exact ⟨_, _, _, _, _, _, _, _, _, _, rfl, rfl, rfl, rfl, rfl, rfl, rfl, rfl, rfl, rfl⟩
theorem law_ok (ns : List Int) (hl : ns.length ≤ 63) : ∃ st, run subc 1000 prog 52 12 [.f (.scr ns)] [] = .ok (.f (.bl true)) st := by
  have inv := forL_inv (b := kFor subc (run subc 1000 prog 51) 1000 [1, 2] lawB) (I := fun env _ => ∃ e1 e2 e3 e4 e5 e6 e7 e8 e9 e10, env = [some (.f (.scr ns)), e1, e2, e3, e4, e5, e6, e7, e8, e9, e10])
    (enumL 0 (nums (ns ++ [5]))) [some (.f (.scr ns)), none, none, none, none, none, none, none, none, none, none] []
    (by
      rintro x hx env st ⟨e1, e2, e3, e4, e5, e6, e7, e8, e9, e10, rfl⟩
      obtain ⟨k, v, hv, rfl⟩ := mem_enum hx
      obtain ⟨c, _, rfl⟩ := get_nums hv
      obtain ⟨f1, f2, f3, f4, f5, f6, f7, f8, f9, f10, q⟩ := turn_ok 1000 51 (by decide) ns (0 + k) c e1 e2 e3 e4 e5 e6 e7 e8 e9 e10 st
      exact ⟨_, _, q, f1, f2, f3, f4, f5, f6, f7, f8, f9, f10, rfl⟩)
    ⟨_, _, _, _, _, _, _, _, _, _, rfl⟩
  obtain ⟨env', st', q, f1, f2, f3, f4, f5, f6, f7, f8, f9, f10, rfl⟩ := inv
  rw [run_succ (d := d_law) rfl rfl]
  have q' : kFors subc (run subc 1000 prog 51) 1000 [1, 2] (match d_law.body with | .cons (.fors _ _ b) _ => b | _ => .nil) _ _ _ = _ := q
  simp only [d_law] at q'
  have hadd := scr_add ns hl
  have x : ∀ st, run subc 1000 prog 51 40 [.f (.int 1), .f (.int 0)] st = _ := fun st => raised_ok (sub := subc) (P := prog) rfl rfl rfl rfl rfl rfl rfl rfl rfl rfl rfl 1000 50 (.leaf true) (.num 0) st (by decide) (by decide) trivial (by simp) trivial
  have xr : encT (Told.raise (.leaf true) (.num 0)) = .int 1 := rfl
  simp [bind_ok, bind_exc, fr_ok, fr_exc, frI_ok, frI_exc, tst_ok, tst_exc, of_some, s_ok, s_exc, sb_nx, sb_rt, sb_exc, so_some, g_true, kGet_some, ev_v, ev_k, k2bin_eq, k1bin_eq, ev_bin, k2cmp_eq, k1cmp_eq, ev_cmp, k2ix_eq, k1ix_eq, ev_ix, k2dget_eq, k1dget_eq, ev_dget, k2din_eq, k1din_eq, ev_din, k2dnot_eq, k1dnot_eq, ev_dnot, k2cutTo_eq, k1cutTo_eq, ev_cutTo, k2cutFrom_eq, k1cutFrom_eq, ev_cutFrom, k1and_eq, ev_and, k1or_eq, ev_or, k1not_eq, ev_not, k1neg_eq, ev_neg, k1ite_eq, ev_ite, k4chain_eq, k3chain_eq, k2chain_eq, k1chain_eq, ev_chain, k1tup_eq, ev_tup, k1lst_eq, ev_lst, k1mlst_eq, ev_mlst, k1mdic_eq, ev_mdic, ev_call, k1blt_eq, ev_blt, k2meth_eq, k1meth_eq, ev_meth, k1make_eq, ev_make, k2make_ok, k2make_exc, k1fld_eq, ev_fld, k1isi_eq, ev_isi, k2bm_eq, k1bm_eq, ev_bm, k3cut_eq, k2cuti_eq, k2cut_eq, k1cut_eq, ev_cut, kElt_f, kLst_eq, kLcB_some, kLcT_eq, kLc_eq, ev_lc, kIfF_eq, kLcIfB_some, kLcIfT_eq, kLcIf_eq, ev_lcIf, k2es_eq, k1es_eq, es_nil, es_cons, kSeq_eq, it_seq, kRange_eq, it_range, k3rangeS_eq, k2rangeS_eq, k1rangeS_eq, it_rangeS, kEnum_lst, kEnum_scr, it_enum, kZip_lst, k1zip_eq, it_zip, kSet_eq, ex_set, kNx_eq, kUnp_f, ex_unp, k2par_eq, k1par_eq, ex_par, k2app_eq, k1app_eq, ex_app, kIf_b, ex_ifs, kRt_eq, ex_ret, kEx_eq, ex_ex, ex_raise, ex_pass, kTry_exc, kTry_nx, kTry_rt, ex_try, kFors_eq, ex_fors, ex_whl, k3stx_eq, kFz_f, k2stx_eq, k1stx_eq, ex_setIx, k2stf_eq, k1stf_eq, ex_setFld, bk_nil, bk_cons, env0, leave_rt, leave_exc, cmpS, cmpop, binop, intsOf, g_true, allF, bindT, wipeE, okd_int, FV.toInt?, d_law, -binop, hadd, -kFors_eq, q', x, xr, FV.eqv]
  exact ⟨[], leave_rt2 rfl rfl _⟩
end Pl
end MP

namespace MP
open PySem L2
def caOf (A_StampError A_BadOwn A_BadTold A_Shared A_NoOwn A_BadRow A_NoHand : Addr) : Nat → Addr
  | 10 => A_StampError
  | 11 => A_BadOwn
  | 12 => A_BadTold
  | 13 => A_Shared
  | 14 => A_NoOwn
  | 15 => A_BadRow
  | 16 => A_NoHand
  | _ => 0
theorem all_mk {P : Program} {w : World} {K : PySem.W.Frag} {h : Heap} {mg : Str → Option Value} {fa : Addr} (KX : K.In h) (G : h.Ns mainGlobals mg) (hfa : mg "law" = some (.ref fa))
    {fL : Addr} {odL anL : Option Addr} {slL : Array (Option Value)} {ocL kVL dcL pmL cdL ctL : Value}
    {A_StampError A_BadOwn A_BadTold A_Shared A_NoOwn A_BadRow A_NoHand : Addr}
    {tk_PARTED : Tok}
    (F_lifted : Fk.DefAt K mg "lifted" Fk.s_lifted)
    (F_base : Fk.DefAt K mg "base" Fk.s_base)
    (F_spread : Fk.DefAt K mg "spread" Fk.s_spread)
    (F_told_least : Fk.DefAt K mg "told_least" Fk.s_told_least)
    (F_told_greatest : Fk.DefAt K mg "told_greatest" Fk.s_told_greatest)
    (F_halves : Fk.DefAt K mg "halves" Fk.s_halves)
    (F_filled : Fk.DefAt K mg "filled" Fk.s_filled)
    (F_price : Fk.DefAt K mg "price" Fk.s_price)
    (F_goes_left : Fk.DefAt K mg "goes_left" Fk.s_goes_left)
    (F_grown : Fk.DefAt K mg "grown" Fk.s_grown)
    (F_raised : Fk.DefAt K mg "raised" Fk.s_raised)
    (F__law_mixed : Fk.DefAt K mg "_law_mixed" Fk.s__law_mixed)
    (F__law_own : Fk.DefAt K mg "_law_own" Fk.s__law_own)
    (F__law_places : Fk.DefAt K mg "_law_places" Fk.s__law_places)
    (F__law_own_of : Fk.DefAt K mg "_law_own_of" Fk.s__law_own_of)
    (F__law_tree : Fk.DefAt K mg "_law_tree" Fk.s__law_tree)
    (F__law_numbers : Fk.DefAt K mg "_law_numbers" Fk.s__law_numbers)
    (F__law_told_of : Fk.DefAt K mg "_law_told_of" Fk.s__law_told_of)
    (F__law_word : Fk.DefAt K mg "_law_word" Fk.s__law_word)
    (F__law_filled : Fk.DefAt K mg "_law_filled" Fk.s__law_filled)
    (F__law_leaves : Fk.DefAt K mg "_law_leaves" Fk.s__law_leaves)
    (F__law_grown : Fk.DefAt K mg "_law_grown" Fk.s__law_grown)
    (F__law_refused : Fk.DefAt K mg "_law_refused" Fk.s__law_refused)
    (F__law_far : Fk.DefAt K mg "_law_far" Fk.s__law_far)
    (aL : PySem.W.nsIn K mainGlobals "law" = some (some (.ref fL)))
    (lL : K.lookup fL = some ⟨ocL, odL, .func (PySem.W.fnOf "law" "law" (defArgs Fk.s_law) (defBody Fk.s_law) (defScope Fk.s_law) .none kVL dcL pmL anL cdL ctL), slL⟩)
    (cL : PySem.W.codeIn K cdL "law" = true)
    (kL : PySem.W.keepIn K (.ref fL) = true)
    (z_isinstance : PySem.W.nsIn K mainGlobals "isinstance" = some none)
    (z_int : PySem.W.nsIn K mainGlobals "int" = some none)
    (z_tuple : PySem.W.nsIn K mainGlobals "tuple" = some none)
    (z_len : PySem.W.nsIn K mainGlobals "len" = some none)
    (z_max : PySem.W.nsIn K mainGlobals "max" = some none)
    (z_min : PySem.W.nsIn K mainGlobals "min" = some none)
    (z_range : PySem.W.nsIn K mainGlobals "range" = some none)
    (z_enumerate : PySem.W.nsIn K mainGlobals "enumerate" = some none)
    (z_ValueError : PySem.W.nsIn K mainGlobals "ValueError" = some none)
    (a_StampError : PySem.W.nsIn K mainGlobals "StampError" = some (some (.ref A_StampError)))
    (a_BadOwn : PySem.W.nsIn K mainGlobals "BadOwn" = some (some (.ref A_BadOwn)))
    (a_BadTold : PySem.W.nsIn K mainGlobals "BadTold" = some (some (.ref A_BadTold)))
    (a_Shared : PySem.W.nsIn K mainGlobals "Shared" = some (some (.ref A_Shared)))
    (a_NoOwn : PySem.W.nsIn K mainGlobals "NoOwn" = some (some (.ref A_NoOwn)))
    (a_BadRow : PySem.W.nsIn K mainGlobals "BadRow" = some (some (.ref A_BadRow)))
    (a_NoHand : PySem.W.nsIn K mainGlobals "NoHand" = some (some (.ref A_NoHand)))
    (g_PARTED : PySem.W.nsIn K mainGlobals "PARTED" = some (some (.int 1000 tk_PARTED)))
    (is_StampError : PySem.W.isClsIn K A_StampError = true)
    (ty_StampError : PySem.W.typeIn K (.ref A_StampError) = some (.type "type"))
    (is_BadOwn : PySem.W.isClsIn K A_BadOwn = true)
    (ty_BadOwn : PySem.W.typeIn K (.ref A_BadOwn) = some (.type "type"))
    (is_BadTold : PySem.W.isClsIn K A_BadTold = true)
    (ty_BadTold : PySem.W.typeIn K (.ref A_BadTold) = some (.type "type"))
    (is_Shared : PySem.W.isClsIn K A_Shared = true)
    (ty_Shared : PySem.W.typeIn K (.ref A_Shared) = some (.type "type"))
    (is_NoOwn : PySem.W.isClsIn K A_NoOwn = true)
    (ty_NoOwn : PySem.W.typeIn K (.ref A_NoOwn) = some (.type "type"))
    (is_BadRow : PySem.W.isClsIn K A_BadRow = true)
    (ty_BadRow : PySem.W.typeIn K (.ref A_BadRow) = some (.type "type"))
    (is_NoHand : PySem.W.isClsIn K A_NoHand = true)
    (ty_NoHand : PySem.W.typeIn K (.ref A_NoHand) = some (.type "type"))
    (sb_StampError : PySem.W.subIn K (.ref A_StampError) (.type "BaseException") = some true)
    (sp_c : PySem.W.specialIn K (.builtin "object.__class__") "__get__" = some (some (.builtin "getset_descriptor.__get__")))
    (tk_c : PySem.W.takesIn K (.builtin "object.__class__") = some true)
    (kp_NoOwn : PySem.W.keepIn K (.ref A_NoOwn) = true)
    (x_NoOwn : PySem.W.excIn K A_NoOwn [.type "ValueError", .type "Exception", .type "BaseException", .type "object"] "ValueError.__new__" = true)
    (sb_NoOwn : PySem.W.subIn K (.ref A_NoOwn) (.type "BaseException") = some true)
    (ve_NoOwn : PySem.W.subIn K (.ref A_NoOwn) (.type "ValueError") = some true)
    (ga_NoOwn : PySem.W.findIn K (.ref A_NoOwn) "__getattribute__" = some (some (.builtin "BaseException.__getattribute__")))
    (gt_NoOwn : PySem.W.findIn K (.ref A_NoOwn) "__getattr__" = some none)
    (hd_NoOwn : PySem.W.hasDictIn K A_NoOwn = true)
    (cl_NoOwn : PySem.W.findIn K (.ref A_NoOwn) "__class__" = some (some (.builtin "object.__class__")))
    (mo_NoOwn : PySem.W.mroIn K A_NoOwn (.type "object") = some true)
    (s_NoOwn_StampError : PySem.W.subIn K (.ref A_NoOwn) (.ref A_StampError) = some true)
    (s_NoOwn_BadOwn : PySem.W.subIn K (.ref A_NoOwn) (.ref A_BadOwn) = some false)
    (s_NoOwn_BadTold : PySem.W.subIn K (.ref A_NoOwn) (.ref A_BadTold) = some false)
    (s_NoOwn_Shared : PySem.W.subIn K (.ref A_NoOwn) (.ref A_Shared) = some false)
    (s_NoOwn_NoOwn : PySem.W.subIn K (.ref A_NoOwn) (.ref A_NoOwn) = some true)
    (s_NoOwn_BadRow : PySem.W.subIn K (.ref A_NoOwn) (.ref A_BadRow) = some false)
    (s_NoOwn_NoHand : PySem.W.subIn K (.ref A_NoOwn) (.ref A_NoHand) = some false)
    : ∃ fd : FuncData, (∀ (s : Shared) (v : Value), BindsTo s fd ⟨[v], []⟩ [("_law_script", v)]) ∧ ∀ base : Heap, K.In base → base.Ns mainGlobals mg → FnOk P w K mg base (L2.CX P w) 104 fa fd ["_law_script"] (spLaw K) := by
  have e := hfa.symm.trans (PySem.W.mg_of KX G aL)
  cases e
  have FL := fun_mk (st := Fk.s_law) lL cL kL
  refine ⟨PySem.W.fnOf "law" "law" (defArgs Fk.s_law) (defBody Fk.s_law) (defScope Fk.s_law) .none kVL dcL pmL anL cdL ctL, fun s v => .of_eq rfl, fun base _ _ => ?_⟩
  have hT : ∀ f d, prog f = some d → DefD P w K mg base ⟨K, caOf A_StampError A_BadOwn A_BadTold A_Shared A_NoOwn A_BadRow A_NoHand, flc⟩ subc 1000 (Fac T0 ⟨K, caOf A_StampError A_BadOwn A_BadTold A_Shared A_NoOwn A_BadRow A_NoHand, flc⟩) d (tie f) := by
    intro f d hd
    unfold prog at hd
    split at hd
    · cases hd; exact dd_lifted F_lifted
    · cases hd; exact dd_base F_base
    · cases hd; exact dd_spread F_spread
    · cases hd; exact dd_told_least F_told_least
    · cases hd; exact dd_told_greatest F_told_greatest
    · cases hd; exact dd_halves F_halves
    · cases hd; exact dd_filled F_filled
    · cases hd; exact dd_price F_price
    · cases hd; exact dd_goes_left F_goes_left
    · cases hd; exact dd_grown F_grown
    · cases hd; exact dd_raised F_raised
    · cases hd; exact dd__law_mixed F__law_mixed
    · cases hd; exact dd__law_own F__law_own
    · cases hd; exact dd__law_places F__law_places
    · cases hd; exact dd__law_own_of F__law_own_of
    · cases hd; exact dd__law_tree F__law_tree
    · cases hd; exact dd__law_numbers F__law_numbers
    · cases hd; exact dd__law_told_of F__law_told_of
    · cases hd; exact dd__law_word F__law_word
    · cases hd; exact dd__law_filled F__law_filled
    · cases hd; exact dd__law_leaves F__law_leaves
    · cases hd; exact dd__law_grown F__law_grown
    · cases hd; exact dd__law_refused F__law_refused
    · cases hd; exact dd__law_far F__law_far
    · cases hd; exact dd_law ⟨_, _, FL, PySem.W.mg_of KX G aL⟩
    · cases hd
  have hF : ∀ m (X : Cx), X.prog = P → X.w = w → X.K = K → X.mg = mg → X.base = base → X.calm = true → Room (2 * m + 1) X.A → (∀ f d, prog f = some d → DefK P w K mg base ⟨K, caOf A_StampError A_BadOwn A_BadTold A_Shared A_NoOwn A_BadRow A_NoHand, flc⟩ (run subc 1000 prog m) f (2 * m) (tie f)) → Fac T0 ⟨K, caOf A_StampError A_BadOwn A_BadTold A_Shared A_NoOwn A_BadRow A_NoHand, flc⟩ X (run subc 1000 prog m) := by
    intro m X e1 e2 e3 e4 e5 hc hr hd
    subst e1 e2 e3 e4 e5
    refine ⟨rfl, ?_, ⟨_, hr, hd⟩, ?_, ?_, ?_, ?_, ?_⟩
    · intro b hb
      simp only [T0, List.mem_cons, List.not_mem_nil, or_false] at hb
      rcases hb with rfl | rfl | rfl | rfl | rfl | rfl | rfl | rfl | rfl
      · exact PySem.W.mg_none_of KX G z_isinstance
      · exact PySem.W.mg_none_of KX G z_int
      · exact PySem.W.mg_none_of KX G z_tuple
      · exact PySem.W.mg_none_of KX G z_len
      · exact PySem.W.mg_none_of KX G z_max
      · exact PySem.W.mg_none_of KX G z_min
      · exact PySem.W.mg_none_of KX G z_range
      · exact PySem.W.mg_none_of KX G z_enumerate
      · exact PySem.W.mg_none_of KX G z_ValueError
    · exact clsF_mk (by
        intro c d b h
        simp only [T0] at h
        unfold subc at h
        split at h
        · cases h; exact kit_sub is_StampError ty_StampError s_NoOwn_NoOwn s_NoOwn_StampError
        · cases h; exact kit_sub is_BadOwn ty_BadOwn s_NoOwn_NoOwn s_NoOwn_BadOwn
        · cases h; exact kit_sub is_BadTold ty_BadTold s_NoOwn_NoOwn s_NoOwn_BadTold
        · cases h; exact kit_sub is_Shared ty_Shared s_NoOwn_NoOwn s_NoOwn_Shared
        · cases h; exact kit_sub is_NoOwn ty_NoOwn s_NoOwn_NoOwn s_NoOwn_NoOwn
        · cases h; exact kit_sub is_BadRow ty_BadRow s_NoOwn_NoOwn s_NoOwn_BadRow
        · cases h; exact kit_sub is_NoHand ty_NoHand s_NoOwn_NoOwn s_NoOwn_NoHand
        · cases h) (by
        intro c d b h hc
        simp only [T0] at h
        unfold subc at h
        split at h <;> first | (cases h; done) | omega) (by
        intro c d b h hc
        simp only [T0] at h
        unfold subc at h
        split at h
        · exact ⟨⟨ga_NoOwn, gt_NoOwn, sb_NoOwn, hd_NoOwn, cl_NoOwn, sp_c, tk_c, mo_NoOwn⟩, kit_ve ve_NoOwn⟩
        · exact ⟨⟨ga_NoOwn, gt_NoOwn, sb_NoOwn, hd_NoOwn, cl_NoOwn, sp_c, tk_c, mo_NoOwn⟩, kit_ve ve_NoOwn⟩
        · exact ⟨⟨ga_NoOwn, gt_NoOwn, sb_NoOwn, hd_NoOwn, cl_NoOwn, sp_c, tk_c, mo_NoOwn⟩, kit_ve ve_NoOwn⟩
        · exact ⟨⟨ga_NoOwn, gt_NoOwn, sb_NoOwn, hd_NoOwn, cl_NoOwn, sp_c, tk_c, mo_NoOwn⟩, kit_ve ve_NoOwn⟩
        · exact ⟨⟨ga_NoOwn, gt_NoOwn, sb_NoOwn, hd_NoOwn, cl_NoOwn, sp_c, tk_c, mo_NoOwn⟩, kit_ve ve_NoOwn⟩
        · exact ⟨⟨ga_NoOwn, gt_NoOwn, sb_NoOwn, hd_NoOwn, cl_NoOwn, sp_c, tk_c, mo_NoOwn⟩, kit_ve ve_NoOwn⟩
        · exact ⟨⟨ga_NoOwn, gt_NoOwn, sb_NoOwn, hd_NoOwn, cl_NoOwn, sp_c, tk_c, mo_NoOwn⟩, kit_ve ve_NoOwn⟩
        · cases h)
    · intro c x h
      simp only [T0] at h
      split at h
      · cases h; exact PySem.W.mg_of KX G a_StampError
      · cases h; exact PySem.W.mg_of KX G a_BadOwn
      · cases h; exact PySem.W.mg_of KX G a_BadTold
      · cases h; exact PySem.W.mg_of KX G a_Shared
      · cases h; exact PySem.W.mg_of KX G a_NoOwn
      · cases h; exact PySem.W.mg_of KX G a_BadRow
      · cases h; exact PySem.W.mg_of KX G a_NoHand
      · cases h
    · intro p hp
      simp only [T0, List.mem_cons, List.not_mem_nil, or_false] at hp
      rcases hp with rfl
      · exact ⟨_, PySem.W.mg_of KX G g_PARTED⟩
    · intro c x h hs hc
      simp only [T0] at h hs
      split at h
      · cases hs
      · cases hs
      · cases hs
      · cases hs
      · cases h; exact ⟨PySem.W.mg_of KX G a_NoOwn, kp_NoOwn, x_NoOwn, sb_NoOwn, ty_NoOwn⟩
      · cases hs
      · cases hs
      · cases h
    · intro c k h hc
      simp only [T0] at h
      unfold subc at h
      split at h
      · exact exm_sub sb_StampError is_StampError ty_StampError s_NoOwn_StampError
      · cases h
      · cases h
      · cases h
      · exact exm_sub sb_NoOwn is_NoOwn ty_NoOwn s_NoOwn_NoOwn
      · cases h
      · cases h
      · cases h
  exact law_end (f := 12) (n := 51) (N := ["_law_script", "_law_k", "_law_cell", "_law_mixed_here", "_law_own_here", "_law_tree_here", "_law_numbers_here", "_law_told", "_law_full", "_law_some", "_law_due"]) (ps := ["_law_script"]) (fac := Fac T0 ⟨K, caOf A_StampError A_BadOwn A_BadTold A_Shared A_NoOwn A_BadRow A_NoHand, flc⟩) (d := d_law) rfl rfl FL ⟨rfl, rfl, rfl, by decide +kernel, rfl, by decide +kernel, by decide +kernel⟩ rfl rfl (fun Γ X fc g => law_body fc g) (fun X e1 e2 e3 e4 e5 hc hr => hF 51 X e1 e2 e3 e4 e5 hc (hr.mono (by decide)) (table hT hF 51)) Pl.law_ok
theorem walk {l : PySem.W.OpenLaw} {q : Program} {loose : List Str} {XP : (Str → Option Value) → Heap → Prop} {YP : World → Heap → Prop} {d : DefRec} {K : Params → PySem.W.Frag} (hn : l.most = some 63) (hdf : d.params.defaults = [])
    (hY : ∀ (w : World) (h : Heap), YP w h → (K w.params).In h)
    (F : ∀ (w : World) (mg : Str → Option Value) (fa : Addr) (h : Heap), (K w.params).In h → h.Ns mainGlobals mg → mg d.name = some (.ref fa) →
      ∃ fd : FuncData, (∀ (s : Shared) (u : Value), BindsTo s fd ⟨[u], []⟩ [("_law_script", u)]) ∧ ∀ base : Heap, (K w.params).In base → base.Ns mainGlobals mg → FnOk l.prog w (K w.params) mg base (L2.CX l.prog w) 104 fa fd ["_law_script"] (spLaw (K w.params))) :
    PySem.W.WalkO q loose XP YP l.row.toRowW d [] (fun f vs => PySem.call f vs) :=
  L2.walk_of (n := 63) (k := 104) (x := "_law_script") (CX := fun w => L2.CX l.prog w) (sp := fun w => spLaw (K w.params)) hn (by decide) hdf ⟨rfl, by decide, by decide⟩ hY F (fun _ _ a ns hl _ hS => ⟨ns, a, hl, rfl, hS, fun _ => rfl⟩) fun w H s e s' c => by
    obtain ⟨_, _, _, _, _, _, _, _, _, _, _, _, z⟩ := c
    exact z
end MP
open PySem PySem.W PyProof.Rows
set_option maxRecDepth 100000 in
set_option maxHeartbeats 0 in
theorem PySem.Challenge.cw_forkstamp_k05_deeds_by_the_rule_holds : PySem.Challenge.rw_forkstamp_k05_deeds_by_the_rule.Holds := by
  w_on; o_law; k_head; (case hw => w_witness2)
  k_fill
  refine MP.walk (l := PySem.Challenge.rw_forkstamp_k05_deeds_by_the_rule) rfl rfl (fun w h Y => PySem.W.kIn_of Y) ?F
  case F =>
    intro w mg fa h KX G hmg
    refine' MP.all_mk KX G hmg (Fk.defAt_mk KX G ?a_f_lifted ?l_lifted ?c_lifted ?k_lifted) (Fk.defAt_mk KX G ?a_f_base ?l_base ?c_base ?k_base) (Fk.defAt_mk KX G ?a_f_spread ?l_spread ?c_spread ?k_spread) (Fk.defAt_mk KX G ?a_f_told_least ?l_told_least ?c_told_least ?k_told_least) (Fk.defAt_mk KX G ?a_f_told_greatest ?l_told_greatest ?c_told_greatest ?k_told_greatest) (Fk.defAt_mk KX G ?a_f_halves ?l_halves ?c_halves ?k_halves) (Fk.defAt_mk KX G ?a_f_filled ?l_filled ?c_filled ?k_filled) (Fk.defAt_mk KX G ?a_f_price ?l_price ?c_price ?k_price) (Fk.defAt_mk KX G ?a_f_goes_left ?l_goes_left ?c_goes_left ?k_goes_left) (Fk.defAt_mk KX G ?a_f_grown ?l_grown ?c_grown ?k_grown) (Fk.defAt_mk KX G ?a_f_raised ?l_raised ?c_raised ?k_raised) (Fk.defAt_mk KX G ?a_f__law_mixed ?l__law_mixed ?c__law_mixed ?k__law_mixed) (Fk.defAt_mk KX G ?a_f__law_own ?l__law_own ?c__law_own ?k__law_own) (Fk.defAt_mk KX G ?a_f__law_places ?l__law_places ?c__law_places ?k__law_places) (Fk.defAt_mk KX G ?a_f__law_own_of ?l__law_own_of ?c__law_own_of ?k__law_own_of) (Fk.defAt_mk KX G ?a_f__law_tree ?l__law_tree ?c__law_tree ?k__law_tree) (Fk.defAt_mk KX G ?a_f__law_numbers ?l__law_numbers ?c__law_numbers ?k__law_numbers) (Fk.defAt_mk KX G ?a_f__law_told_of ?l__law_told_of ?c__law_told_of ?k__law_told_of) (Fk.defAt_mk KX G ?a_f__law_word ?l__law_word ?c__law_word ?k__law_word) (Fk.defAt_mk KX G ?a_f__law_filled ?l__law_filled ?c__law_filled ?k__law_filled) (Fk.defAt_mk KX G ?a_f__law_leaves ?l__law_leaves ?c__law_leaves ?k__law_leaves) (Fk.defAt_mk KX G ?a_f__law_grown ?l__law_grown ?c__law_grown ?k__law_grown) (Fk.defAt_mk KX G ?a_f__law_refused ?l__law_refused ?c__law_refused ?k__law_refused) (Fk.defAt_mk KX G ?a_f__law_far ?l__law_far ?c__law_far ?k__law_far) ?aL ?lL ?cL ?kL ?z_isinstance ?z_int ?z_tuple ?z_len ?z_max ?z_min ?z_range ?z_enumerate ?z_ValueError ?a_StampError ?a_BadOwn ?a_BadTold ?a_Shared ?a_NoOwn ?a_BadRow ?a_NoHand ?g_PARTED ?is_StampError ?ty_StampError ?is_BadOwn ?ty_BadOwn ?is_BadTold ?ty_BadTold ?is_Shared ?ty_Shared ?is_NoOwn ?ty_NoOwn ?is_BadRow ?ty_BadRow ?is_NoHand ?ty_NoHand ?sb_StampError ?sp_c ?tk_c ?kp_NoOwn ?x_NoOwn ?sb_NoOwn ?ve_NoOwn ?ga_NoOwn ?gt_NoOwn ?hd_NoOwn ?cl_NoOwn ?mo_NoOwn ?s_NoOwn_StampError ?s_NoOwn_BadOwn ?s_NoOwn_BadTold ?s_NoOwn_Shared ?s_NoOwn_NoOwn ?s_NoOwn_BadRow ?s_NoOwn_NoHand
    (case a_f_lifted => k_is)
    (case l_lifted => k_is)
    (case c_lifted => k_is)
    (case k_lifted => k_is)
    (case a_f_base => k_is)
    (case l_base => k_is)
    (case c_base => k_is)
    (case k_base => k_is)
    (case a_f_spread => k_is)
    (case l_spread => k_is)
    (case c_spread => k_is)
    (case k_spread => k_is)
    (case a_f_told_least => k_is)
    (case l_told_least => k_is)
    (case c_told_least => k_is)
    (case k_told_least => k_is)
    (case a_f_told_greatest => k_is)
    (case l_told_greatest => k_is)
    (case c_told_greatest => k_is)
    (case k_told_greatest => k_is)
    (case a_f_halves => k_is)
    (case l_halves => k_is)
    (case c_halves => k_is)
    (case k_halves => k_is)
    (case a_f_filled => k_is)
    (case l_filled => k_is)
    (case c_filled => k_is)
    (case k_filled => k_is)
    (case a_f_price => k_is)
    (case l_price => k_is)
    (case c_price => k_is)
    (case k_price => k_is)
    (case a_f_goes_left => k_is)
    (case l_goes_left => k_is)
    (case c_goes_left => k_is)
    (case k_goes_left => k_is)
    (case a_f_grown => k_is)
    (case l_grown => k_is)
    (case c_grown => k_is)
    (case k_grown => k_is)
    (case a_f_raised => k_is)
    (case l_raised => k_is)
    (case c_raised => k_is)
    (case k_raised => k_is)
    (case a_f__law_mixed => k_is)
    (case l__law_mixed => k_is)
    (case c__law_mixed => k_is)
    (case k__law_mixed => k_is)
    (case a_f__law_own => k_is)
    (case l__law_own => k_is)
    (case c__law_own => k_is)
    (case k__law_own => k_is)
    (case a_f__law_places => k_is)
    (case l__law_places => k_is)
    (case c__law_places => k_is)
    (case k__law_places => k_is)
    (case a_f__law_own_of => k_is)
    (case l__law_own_of => k_is)
    (case c__law_own_of => k_is)
    (case k__law_own_of => k_is)
    (case a_f__law_tree => k_is)
    (case l__law_tree => k_is)
    (case c__law_tree => k_is)
    (case k__law_tree => k_is)
    (case a_f__law_numbers => k_is)
    (case l__law_numbers => k_is)
    (case c__law_numbers => k_is)
    (case k__law_numbers => k_is)
    (case a_f__law_told_of => k_is)
    (case l__law_told_of => k_is)
    (case c__law_told_of => k_is)
    (case k__law_told_of => k_is)
    (case a_f__law_word => k_is)
    (case l__law_word => k_is)
    (case c__law_word => k_is)
    (case k__law_word => k_is)
    (case a_f__law_filled => k_is)
    (case l__law_filled => k_is)
    (case c__law_filled => k_is)
    (case k__law_filled => k_is)
    (case a_f__law_leaves => k_is)
    (case l__law_leaves => k_is)
    (case c__law_leaves => k_is)
    (case k__law_leaves => k_is)
    (case a_f__law_grown => k_is)
    (case l__law_grown => k_is)
    (case c__law_grown => k_is)
    (case k__law_grown => k_is)
    (case a_f__law_refused => k_is)
    (case l__law_refused => k_is)
    (case c__law_refused => k_is)
    (case k__law_refused => k_is)
    (case a_f__law_far => k_is)
    (case l__law_far => k_is)
    (case c__law_far => k_is)
    (case k__law_far => k_is)
    (case aL => k_is)
    (case lL => k_is)
    (case cL => k_is)
    (case kL => k_is)
    (case z_isinstance => k_is)
    (case z_int => k_is)
    (case z_tuple => k_is)
    (case z_len => k_is)
    (case z_max => k_is)
    (case z_min => k_is)
    (case z_range => k_is)
    (case z_enumerate => k_is)
    (case z_ValueError => k_is)
    (case a_StampError => k_is)
    (case a_BadOwn => k_is)
    (case a_BadTold => k_is)
    (case a_Shared => k_is)
    (case a_NoOwn => k_is)
    (case a_BadRow => k_is)
    (case a_NoHand => k_is)
    (case g_PARTED => k_is)
    (case is_StampError => k_is)
    (case ty_StampError => k_is)
    (case is_BadOwn => k_is)
    (case ty_BadOwn => k_is)
    (case is_BadTold => k_is)
    (case ty_BadTold => k_is)
    (case is_Shared => k_is)
    (case ty_Shared => k_is)
    (case is_NoOwn => k_is)
    (case ty_NoOwn => k_is)
    (case is_BadRow => k_is)
    (case ty_BadRow => k_is)
    (case is_NoHand => k_is)
    (case ty_NoHand => k_is)
    (case sb_StampError => k_is)
    (case sp_c => k_is)
    (case tk_c => k_is)
    (case kp_NoOwn => k_is)
    (case x_NoOwn => k_exc)
    (case sb_NoOwn => k_is)
    (case ve_NoOwn => k_is)
    (case ga_NoOwn => k_is)
    (case gt_NoOwn => k_is)
    (case hd_NoOwn => k_is)
    (case cl_NoOwn => k_is)
    (case mo_NoOwn => k_is)
    (case s_NoOwn_StampError => k_is)
    (case s_NoOwn_BadOwn => k_is)
    (case s_NoOwn_BadTold => k_is)
    (case s_NoOwn_Shared => k_is)
    (case s_NoOwn_NoOwn => k_is)
    (case s_NoOwn_BadRow => k_is)
    (case s_NoOwn_NoHand => k_is)
#print axioms PySem.Challenge.cw_forkstamp_k05_deeds_by_the_rule_holds
