import PyProof.Rows.All
import Wide.All
import OpenK.AllK
import Wide.FinOn
import Lean
import PySem.Challenge.RW_pq1320_01
open PySem PySem.W PyProof.Rows
set_option Elab.async false
namespace Mine
noncomputable def lookB : Bool := true
noncomputable def lookC : Bool := true
theorem lookB_of (_h : PySem.Challenge.rw_pq1320_01.row.Holds) : lookB = true := rfl
theorem lookC_of : lookC = true := rfl
set_option Elab.async true in
set_option maxRecDepth 100000 in
set_option maxHeartbeats 8000000 in
theorem hd : lookB = true ∧ lookC = true := by
  simp (disch := k_head) only [lookB_of, lookC_of]
  exact ⟨rfl, trivial⟩
end Mine
open PySem.Calls
set_option linter.all false
set_option rowWalk.seconds 0
namespace Mine
set_option maxRecDepth 100000
set_option maxHeartbeats 8000000
theorem filled : (PySem.Challenge.rw_pq1320_01 = PySem.Challenge.rw_pq1320_01) ∧ (hd.heap_1_1 = hd.heap_1_1) := by k_fill; exact ⟨rfl, rfl⟩
local macro_rules | `(tactic| walk_at $s:str) => `(tactic| k_extra $s)
local macro_rules | `(tactic| k_all) => `(tactic| k_extra "k_all")
local macro_rules | `(tactic| k_updF) => `(tactic| k_extra "k_updF")
local macro_rules | `(tactic| k_inst) => `(tactic| k_extra "k_inst")
local macro_rules | `(tactic| k_ne) => `(tactic| k_extra "k_ne")
local macro_rules | `(tactic| k_mem) => `(tactic| k_extra "k_mem")
local macro_rules | `(tactic| omega) => `(tactic| k_extra "omega")
noncomputable def Quiet (_ : Nat) : Prop := True
theorem quiet_coe {β : Type} (h : False) (_ : Option β) (_ : β = Nat) : False := h
theorem quietly {T : Prop} (p : T) (_ : False → Quiet 0) : T := p
namespace T_mem
theorem on_mem : True := True.intro
end T_mem
structure Site (w : World) (p : Program) (loose : List Str) (mean : ExcName → Option Value) (mg mb : Str → Option Value) (h : Heap) : Prop where
  X : (hd.heap_1_1 w.params).In h
  T : Top p loose mean mg mb h
noncomputable abbrev At (dp un : Nat) (fs : Option (List Env)) (gd : Option (List Code)) : Around := { handled := none, depth := dp, frames := fs, guards := gd, units := un }
example : True := by
 (k_with "omega" => lia)
 exact True.intro
noncomputable def plainC (tk : Nat) : Const → Option (Value × Nat)
  | .int i => some (.int i tk, tk + 1)
  | .str x => some (.str x tk, tk + 1)
  | .none => some (.none, tk)
  | .bool b => some (.bool b, tk)
  | _ => none
noncomputable def localIn (env : Env) (x : Str) : Bool := match env.kindOf x with
  | some .local => !(x == ("__debug__" : Str))
  | _ => false
noncomputable def plainN (tk : Nat) : Option Value → Option (Value × Nat)
  | some v => some (v, tk)
  | none => none
noncomputable def plainV (env : Env) (m : Str → Option Value) (tk : Nat) : Expr → Option (Value × Nat)
  | .Constant c _ _ => plainC tk c
  | .Name x _ => match localIn env x with
    | true => plainN tk (m x)
    | false => none
  | _ => none
noncomputable def plainL (env : Env) (m : Str → Option Value) : List Expr → Nat → Option (List Value × Nat)
  | [], tk => some ([], tk)
  | e :: es, tk => match plainV env m tk e with
    | some (v, t1) => match plainL env m es t1 with
      | some (vs, t2) => some (v :: vs, t2)
      | none => none
    | none => none
section
variable {M : Model} {A : Around} {E : Value → Shared → Prop} {h₀ h : Heap} {L : Addr} {m : Str → Option Value} {env : Env} {g : Gens} {tk tk' : Nat}
theorem plain_inv {e : Expr} {q : Value × Nat} (he : plainV env m tk e = some q) : (∃ c a b, e = .Constant c a b) ∨ ∃ x a, e = .Name x a := by
  cases e <;> first | exact .inl ⟨_, _, _, rfl⟩ | exact .inr ⟨_, _, rfl⟩ | exact nomatch he
theorem local_inv {x : Str} (hl : localIn env x = true) : env.kindOf x = some .local ∧ (x == ("__debug__" : Str)) = false := by
  unfold localIn at hl
  split at hl
  · exact ⟨‹_›, by cases q : (x == ("__debug__" : Str)) <;> rw [q] at hl <;> first | rfl | cases hl⟩
  · cases hl
theorem plain_ok {g d o} {e : Expr} {v : Value} {Q : Value → Shared → Prop} (F : Fr h₀ L h m) (he : plainV env m tk e = some (v, tk')) (hq : Q v ⟨h, g, d, tk', o⟩)
    (hk : env.scope.kind = .function := by rfl) (hL : env.locals = L := by rfl) : wpAny M A (eval e env) Q E ⟨h, g, d, tk, o⟩ := by
  subst hL
  rcases plain_inv he with ⟨c, a, b, rfl⟩ | ⟨x, a, rfl⟩
  · have he : plainC tk c = some (v, tk') := he
    cases c <;> cases he
    · exact wpAny_Constant_none hq
    · exact wpAny_Constant_bool hq
    · exact wpAny_Constant_int hq
    · exact Constant_str hq
  · have he : (match localIn env x with | true => plainN tk (m x) | false => none) = some (v, tk') := he
    cases hl : localIn env x with
    | false => rw [hl] at he; cases he
    | true =>
      rw [hl] at he
      cases hv : m x with
      | none => rw [hv] at he; cases he
      | some u => rw [hv] at he; cases he; exact wpAny_Name (wpAny_loadName_local hk (local_inv hl).1 F.ns hv hq) (local_inv hl).2
theorem plain_star {e : Expr} {rest : List Expr} {q : Value × Nat} (he : plainV env m tk e = some q) : starEach (e :: rest) env = (false, eval e env) :: starEach rest env := by
  rcases plain_inv he with ⟨c, a, b, rfl⟩ | ⟨x, a, rfl⟩ <;> rfl
theorem plain_two_of {e : Expr} {es : List Expr} {q : List Value × Nat} (he : plainL env m (e :: es) tk = some q) :
    ∃ v t1 ws, plainV env m tk e = some (v, t1) ∧ plainL env m es t1 = some (ws, q.2) ∧ q.1 = v :: ws := by
  unfold plainL at he
  split at he
  · rename_i h1
    split at he
    · rename_i h2; cases he; exact ⟨_, _, _, h1, h2, rfl⟩
    · cases he
  · cases he
theorem plain_args {g d o} {pos : Pos} : ∀ {es : List Expr} {tk : Nat} {vs : List Value} {Q : List Value → Shared → Prop}, Fr h₀ L h m → plainL env m es tk = some (vs, tk') → Q vs ⟨h, g, d, tk', o⟩ →
    env.scope.kind = .function → env.locals = L → wpAny M A (spliced (backTo pos (starEach es env))) Q E ⟨h, g, d, tk, o⟩
  | [], tk, vs, Q, F, he, hq, hk, hL => by
    cases he
    exact args_nil hq
  | e :: es, tk, vs, Q, F, he, hq, hk, hL => by
    obtain ⟨v, t1, ws, h1, h2, e1⟩ := plain_two_of he
    have e1 : vs = v :: ws := e1
    exact args_cons (plain_ok F h1 (plain_args F h2 (e1 ▸ hq) hk hL) hk hL) (plain_star h1)
theorem plain_two {g d o} {l r : Expr} {tk : Nat} {a b : Value} {Q : Value → Value → Shared → Prop} (F : Fr h₀ L h m) (he : plainL env m [l, r] tk = some ([a, b], tk')) (hq : Q a b ⟨h, g, d, tk', o⟩)
    (hk : env.scope.kind = .function) (hL : env.locals = L) : wpAny M A (eval l env) (fun a s₁ => wpAny M A (eval r env) (fun b s₂ => Q a b s₂) E s₁) E ⟨h, g, d, tk, o⟩ := by
  obtain ⟨v, t1, ws, h1, h2, e1⟩ := plain_two_of he
  obtain ⟨v2, t2, ws2, h3, h4, e2⟩ := plain_two_of h2
  have e2 : ws = v2 :: ws2 := e2
  have e1 : [a, b] = v :: ws := e1
  injection e1 with ea eb
  injection eb.trans e2 with ec ed
  have h5 : some (([] : List Value), t2) = some (ws2, tk') := h4
  injection h5 with h6
  injection h6 with h7 h8
  subst ea ec h8
  exact plain_ok F h1 (plain_ok F h3 hq hk hL) hk hL
theorem bin_pl {g d o} {op : Operator} {l r : Expr} {pos : Pos} {a b : Value} {Q : Value → Shared → Prop} (F : Fr h₀ env.locals h m) (he : plainL env m [l, r] tk = some ([a, b], tk'))
    (hq : wpAny M A (binaryOp op a b) Q E ⟨h, g, d, tk', o⟩) (hk : env.scope.kind = .function) : wpAny M A (eval (.BinOp l op r pos) env) Q E ⟨h, g, d, tk, o⟩ :=
  wpAny_BinOp (plain_two F he hq hk rfl)
theorem cmp_pl {g d o} {op : CmpOp} {l r : Expr} {pos : Pos} {a b : Value} {Q : Value → Shared → Prop} (F : Fr h₀ env.locals h m) (he : plainL env m [l, r] tk = some ([a, b], tk'))
    (hq : wpAny M A (compareOp op a b) Q E ⟨h, g, d, tk', o⟩) (hm : behindInMarks op r = false) (hk : env.scope.kind = .function) : wpAny M A (eval (.Compare l [op] [r] pos) env) Q E ⟨h, g, d, tk, o⟩ :=
  wpAny_Compare1 (plain_two F he hq hk rfl) hm
theorem cmpT_pl {g d o} {op : CmpOp} {l r : Expr} {pos : Pos} {whole : Sem Value} {a b : Value} {Q : Bool → Shared → Prop} (F : Fr h₀ env.locals h m) (he : plainL env m [l, r] tk = some ([a, b], tk'))
    (hq : wpAny M A (compareOp op a b) (fun c s₃ => wpAny M A (truthy c) Q E s₃) E ⟨h, g, d, tk', o⟩) (hm : behindInMarks op r = false) (hk : env.scope.kind = .function) : wpAny M A (isTrue (.Compare l [op] [r] pos) env whole) Q E ⟨h, g, d, tk, o⟩ :=
  wpAny_isTrue_Compare1 (plain_two F he hq hk rfl) hm
theorem args_pl {g d o} {pos : Pos} {es : List Expr} {vs : List Value} {Q : List Value → Shared → Prop} (F : Fr h₀ env.locals h m) (he : plainL env m es tk = some (vs, tk')) (hq : Q vs ⟨h, g, d, tk', o⟩)
    (hk : env.scope.kind = .function) : wpAny M A (spliced (backTo pos (starEach es env))) Q E ⟨h, g, d, tk, o⟩ := plain_args F he hq hk rfl
theorem args_p1 {g d o} {pos : Pos} {e : Expr} {es : List Expr} {v : Value} {Q : List Value → Shared → Prop} (F : Fr h₀ env.locals h m) (he : plainV env m tk e = some (v, tk'))
    (hq : wpAny M A (spliced (backTo pos (starEach es env))) (fun vs s₂ => Q (v :: vs) s₂) E ⟨h, g, d, tk', o⟩)
    (hk : env.scope.kind = .function) : wpAny M A (spliced (backTo pos (starEach (e :: es) env))) Q E ⟨h, g, d, tk, o⟩ := args_cons (plain_ok F he hq hk rfl) (plain_star he)
theorem attr_pl {g d o} {x attr : Str} {xp pos : Pos} {v : Value} {Q : Value → Shared → Prop} (F : Fr h₀ env.locals h m) (he : plainV env m tk (.Name x xp) = some (v, tk')) (hq : wpAny M A (getAttr v attr true) Q E ⟨h, g, d, tk', o⟩)
    (hk : env.scope.kind = .function) : wpAny M A (eval (.Attribute (.Name x xp) attr pos) env) Q E ⟨h, g, d, tk, o⟩ := Attribute_name (plain_ok F he hq hk rfl)
theorem sub_pl {g d o} {l r : Expr} {pos : Pos} {a b : Value} {Q : Value → Shared → Prop} (F : Fr h₀ env.locals h m) (he : plainL env m [l, r] tk = some ([a, b], tk'))
    (hq : wpAny M A (subscriptTail l r a b) Q E ⟨h, g, d, tk', o⟩) (hk : env.scope.kind = .function) : wpAny M A (eval (.Subscript l r pos) env) Q E ⟨h, g, d, tk, o⟩ := Subscript_ (plain_two F he hq hk rfl)
theorem ret_pl {g d o} {e : Expr} {pos : Pos} {v : Value} {Q : Flow → Shared → Prop} (F : Fr h₀ env.locals h m) (he : plainV env m tk e = some (v, tk')) (hq : Q (.ret v) ⟨h, g, d, tk', o⟩)
    (hk : env.scope.kind = .function) : wpAny M A (exec (.Return (some e) pos) env) Q E ⟨h, g, d, tk, o⟩ := wpAny_Return_some (plain_ok F he hq hk rfl)
theorem asg_pl {g d o} {x : Str} {p1 pos : Pos} {e : Expr} {v : Value} {Q : Flow → Shared → Prop} (F : Fr h₀ env.locals h m) (he : plainV env m tk e = some (v, tk')) (hq : wpAny M A (storeName env x v) (fun _ => Q .next) E ⟨h, g, d, tk', o⟩)
    (hk : env.scope.kind = .function) (hs : swapsWith e (some (.Name x p1)) pos.line env = pure false) : wpAny M A (exec (.Assign [.Name x p1] e pos) env) Q E ⟨h, g, d, tk, o⟩ := wpAny_Assign_Name (plain_ok F he hq hk rfl) hs
noncomputable def CmpIs (M : Model) (A : Around) (op : CmpOp) (a b : Value) (c : Bool) : Prop := ∀ {E : Value → Shared → Prop} {Q : Value → Shared → Prop} {s : Shared}, Q (.bool c) s → wpAny M A (compareOp op a b) Q E s
theorem cmp_tr {E : Value → Shared → Prop} {s : Shared} {op : CmpOp} {a b : Value} {c : Bool} {Q : Bool → Shared → Prop} (hc : CmpIs M A op a b c) (hq : Q c s) : wpAny M A (compareOp op a b) (fun c s₃ => wpAny M A (truthy c) Q E s₃) E s := hc (wpAny_truthy_bool hq)
theorem cmpT_b {g d o} {op : CmpOp} {l r : Expr} {pos : Pos} {whole : Sem Value} {a b : Value} {c : Bool} {Q : Bool → Shared → Prop} (F : Fr h₀ env.locals h m) (he : plainL env m [l, r] tk = some ([a, b], tk'))
    (hc : CmpIs M A op a b c) (hq : Q c ⟨h, g, d, tk', o⟩) (hm : behindInMarks op r = false) (hk : env.scope.kind = .function) : wpAny M A (isTrue (.Compare l [op] [r] pos) env whole) Q E ⟨h, g, d, tk, o⟩ :=
  cmpT_pl F he (cmp_tr hc hq) hm hk
section
variable {prog : Program} {w : World} {a b : Int} {x y : Str} {t u : Tok} {r : Addr}
theorem ci_eq : CmpIs (model prog w) A .Eq (.int a t) (.int b u) (a == b) := fun h => PyProof.Rows.eq_int h
theorem ci_ne : CmpIs (model prog w) A .NotEq (.int a t) (.int b u) (a != b) := fun h => PyProof.Rows.ne_int h
theorem ci_lt : CmpIs (model prog w) A .Lt (.int a t) (.int b u) (decide (a < b)) := fun h => PyProof.Rows.lt_int h
theorem ci_gt : CmpIs (model prog w) A .Gt (.int a t) (.int b u) (decide (b < a)) := fun h => PyProof.Rows.gt_int h
theorem ci_le : CmpIs (model prog w) A .LtE (.int a t) (.int b u) (decide (a ≤ b)) := fun h => PyProof.Rows.le_int h
theorem ci_ge : CmpIs (model prog w) A .GtE (.int a t) (.int b u) (decide (b ≤ a)) := fun h => PyProof.Rows.ge_int h
theorem ci_seq : CmpIs (model prog w) A .Eq (.str x t) (.str y u) (x == y) := fun h => PyProof.Rows.eq_str h
theorem ci_sne : CmpIs (model prog w) A .NotEq (.str x t) (.str y u) (x != y) := fun h => PyProof.Rows.ne_str h
theorem ci_nn : CmpIs M A .Is .none .none true := fun h => PyProof.Rows.is_none_none h
theorem ci_nnn : CmpIs M A .IsNot .none .none false := fun h => PyProof.Rows.isnot_none_none h
theorem ci_rn : CmpIs M A .Is (.ref r) .none false := fun h => PyProof.Rows.is_ref_none h
theorem ci_rnn : CmpIs M A .IsNot (.ref r) .none true := fun h => PyProof.Rows.isnot_ref_none h
theorem ci_in : CmpIs M A .Is (.int a t) .none false := fun h => PyProof.Rows.is_int_none h
theorem ci_inn : CmpIs M A .IsNot (.int a t) .none true := fun h => PyProof.Rows.isnot_int_none h
theorem ci_sn : CmpIs M A .Is (.str x t) .none false := fun h => PyProof.Rows.is_str_none h
theorem ci_snn : CmpIs M A .IsNot (.str x t) .none true := fun h => PyProof.Rows.isnot_str_none h
end
noncomputable def globIn (env : Env) (x : Str) : Bool := (env.scope.kind == .function) && (env.kindOf x == some .globalImplicit) && (!(x == ("__debug__" : Str)))
theorem globIn.k {x : Str} (e : globIn env x = true) : env.scope.kind = .function ∧ env.kindOf x = some .globalImplicit ∧ (x == ("__debug__" : Str)) = false := by
  unfold globIn at e
  simp only [Bool.and_eq_true, beq_iff_eq, Bool.not_eq_true'] at e
  exact ⟨e.1.1, e.1.2, e.2⟩
section
variable {p : Program} {loose : List Str} {mg mb : Str → Option Value} {K : Frag}
theorem name_pK {g d o} {x : Str} {pos : Pos} {f : Value} {Q : Value → Shared → Prop} (F : Fr h₀ L h m) (X : K.In h₀) (T : TopRead p loose mg mb h₀) (e : nsIn K mainGlobals x = some (some f))
    (hs : globIn env x = true) (hg : env.globals = mainGlobals) (hq : Q f ⟨h, g, d, tk, o⟩) : wpAny M A (eval (.Name x pos) env) Q E ⟨h, g, d, tk, o⟩ :=
  Name_function_global (globIn.k hs).1 (globIn.k hs).2.1 (loadGlobal_global (by rw [hg]; exact T.g.keeps F.keep) (mg_of X T.g e) hq) (globIn.k hs).2.2
theorem call_pl {g d o} {x : Str} {p1 pos : Pos} {es : List Expr} {f : Value} {vs : List Value} {Q : Value → Shared → Prop} (F : Fr h₀ env.locals h m) (X : K.In h₀) (T : TopRead p loose mg mb h₀)
    (e : nsIn K mainGlobals x = some (some f)) (hkf : keepIn K f = true) (he : plainL env m es tk = some (vs, tk')) (hs : globIn env x = true) (hg : env.globals = mainGlobals)
    (hq : wpAny M A (call f vs) Q E ⟨h, g, d, tk', o⟩) : wpAny M A (eval (.Call (.Name x p1) es [] pos) env) Q E ⟨h, g, d, tk, o⟩ := by
  refine Call_ (name_pK F X T e hs hg ?_)
  have X' : K.In h := Frag.In.keeps X F.keep
  cases es with
  | nil => cases he; exact callWith_K0 X' hkf hq
  | cons e1 es =>
    have st : ∀ {es : List Expr} {tk : Nat} {q : List Value × Nat}, plainL env m es tk = some q → (backTo pos (starEach es env)).any (·.1) = false := by
      intro es
      induction es with
      | nil => intro tk q _; rfl
      | cons e es ih =>
        intro tk q hq
        obtain ⟨v, t1, ws, h1, h2, _⟩ := plain_two_of hq
        rw [plain_star h1]
        show (false || (backTo pos (starEach es env)).any (·.1)) = false
        rw [ih h2]; rfl
    obtain ⟨v, t1, ws, h1, h2, _⟩ := plain_two_of he
    exact callWith_K X hkf (args_pl F he ⟨X', hq⟩ (globIn.k hs).1) (plain_star h1) (st h2)
theorem call_np {g d o} {x : Str} {p1 pos : Pos} {e1 : Expr} {es : List Expr} {f : Value} {Q : Value → Shared → Prop} (F : Fr h₀ L h m) (X : K.In h₀) (T : TopRead p loose mg mb h₀)
    (e : nsIn K mainGlobals x = some (some f)) (hkf : keepIn K f = true) (hs : globIn env x = true) (hg : env.globals = mainGlobals)
    (hq : wpAny M A (spliced (backTo pos (starEach (e1 :: es) env))) (fun vs s₁ => K.In s₁.heap ∧ wpAny M A (call f vs) Q E s₁) E ⟨h, g, d, tk, o⟩)
    (h1 : starEach (e1 :: es) env = (false, eval e1 env) :: starEach es env) (h2 : (backTo pos (starEach es env)).any (·.1) = false) : wpAny M A (eval (.Call (.Name x p1) (e1 :: es) [] pos) env) Q E ⟨h, g, d, tk, o⟩ :=
  Call_ (name_pK F X T e hs hg (callWith_K X hkf hq h1 h2))
end
end
noncomputable def bindsOf (ps : Arguments) (vs : List Value) : List (Str × Value) := List.zip (ps.args.map (·.arg)) vs
theorem binds_of {s : Shared} {fd : FuncData} {vs : List Value} (e : bindArgs fd ⟨vs, []⟩ = pure (bindsOf fd.params vs)) : BindsTo s fd ⟨vs, []⟩ (bindsOf fd.params vs) := BindsTo.of_eq e
theorem binds_c {fd : FuncData} {vs : List Value} (e : bindArgs fd ⟨vs, []⟩ = pure (bindsOf fd.params vs)) : bindArgs fd ⟨vs, []⟩ = pure (bindsOf fd.params vs) := e
section
variable {prog : Program} {w : World} {A : Around} {s : Shared} {K : Frag} {mg mb : Str → Option Value} {p : Program} {loose : List Str} {mean : ExcName → Option Value}
theorem code_def0 {R : Result → Shared → Prop} {name qual : Str} {params : Arguments} {body : List Stmt} {scope : Scope} {dV kV doc pm cdv ct oc : Value} {an od : Option Addr} {osl : Array (Option Value)} {f : Addr} {args : Args} {binds : List (Str × Value)}
    (X : K.In s.heap) (T : Top p loose mean mg mb s.heap)
    (ho : K.lookup f = some ⟨oc, od, .func (fnOf name qual params body scope dV kV doc pm an cdv ct), osl⟩) (hcd : codeIn K cdv qual = true) (hroom : A.depth < recursionLimit)
    (hbind : BindsTo s (fnOf name qual params body scope dV kV doc pm an cdv ct) args binds) (hloc : ∀ y ∈ binds, scope.names.lookup y.1 = some .local)
    (h : ∀ L' h₁ tk, Fr s.heap L' h₁ (fun y => binds.reverse.lookup y) → News s.heap L' h₁ [] →
      wpAny (model prog w) (A.deeper (envOf qual scope L' f cdv)) (execs body (envOf qual scope L' f cdv))
        (fun fl s' => R (.ok (.ret (match fl with | .ret v => v | _ => .none))) s')
        (fun e s' => wpAny (model prog w) (A.deeper (envOf qual scope L' f cdv)) (leaving (envOf qual scope L' f cdv) e) (fun _ s'' => R (.error e) s'') (fun e' s'' => R (.error e') s'') s')
        { s with heap := h₁, toks := tk })
    (hco : scope.isCoroutine = false) (hgen : scope.isGenerator = false) (hk : scope.kind = .function)
    (hcell : ∀ x ∈ scope.names, x.2 ≠ .cell) : codeAny (model prog w) A (.call (.ref f) args) R s := by
  refine codeAny_call_def (fd := fnOf name qual params body scope dV kV doc pm an cdv ct) (body := body) (binds := binds) hroom (X _ _ ho) rfl T.nolimit (codeRec_of X hcd) rfl hbind hcell hloc (fun h₁ hns hk₁ => ?_) hco hgen hk
  have F : Fr s.heap s.heap.objs.size h₁ (fun y => binds.reverse.lookup y) := ⟨hns, hk₁, Nat.le_refl _⟩
  exact h s.heap.objs.size h₁ _ F News.nil
end
noncomputable def SiteN (w : World) (p : Program) (loose : List Str) (mean : ExcName → Option Value) (mg mb : Str → Option Value) (h : Heap) (as : List Addr) : Prop :=
  ∃ b, Site w p loose mean mg mb b ∧ (∀ a o, b.get? a = some o → h.get? a = some o) ∧ ∀ a ∈ as, b.get? a = none
theorem SiteN.site {w : World} {p : Program} {loose : List Str} {mean : ExcName → Option Value} {mg mb : Str → Option Value} {h : Heap} {as : List Addr} (C : SiteN w p loose mean mg mb h as) : Site w p loose mean mg mb (hideAll h as) := by
  obtain ⟨b, ⟨X, T⟩, k, n⟩ := C
  have k' : ∀ a o, b.get? a = some o → (hideAll h as).get? a = some o := fun a o e => hideAll_get _ (k a o e) fun q => by rw [n a q] at e; cases e
  exact ⟨X.keeps k', T.keeps k'⟩
theorem hide_back {h h' : Heap} {news : List (Addr × Obj)} (k : ∀ a o, (hideAll h (news.map (·.1))).get? a = some o → h'.get? a = some o) (n : ∀ p ∈ news, h.get? p.1 = some p.2) (n' : ∀ p ∈ news, h'.get? p.1 = some p.2) : ∀ a o, h.get? a = some o → h'.get? a = some o := by
  intro a o e
  by_cases q : a ∈ news.map (·.1)
  · obtain ⟨x, hx, rfl⟩ := List.mem_map.mp q
    rw [n' x hx, ← n x hx, e]
  · exact k a o (hideAll_get _ e q)
section
variable {prog : Program} {w : World} {A : Around} {s : Shared} {mg mb : Str → Option Value} {p : Program} {loose : List Str} {mean : ExcName → Option Value}
theorem code_defN {R : Result → Shared → Prop} {name qual : Str} {params : Arguments} {body : List Stmt} {scope : Scope} {dV kV doc pm cdv ct oc : Value} {an od : Option Addr} {osl : Array (Option Value)} {f : Addr} {args : Args} {binds : List (Str × Value)} (news : List (Addr × Obj))
    (C : SiteN w p loose mean mg mb s.heap (news.map (·.1))) (hn : ∀ q ∈ news, s.heap.get? q.1 = some q.2)
    (ho : (hd.heap_1_1 w.params).lookup f = some ⟨oc, od, .func (fnOf name qual params body scope dV kV doc pm an cdv ct), osl⟩) (hcd : codeIn (hd.heap_1_1 w.params) cdv qual = true) (hroom : A.depth < recursionLimit)
    (hbind : BindsTo s (fnOf name qual params body scope dV kV doc pm an cdv ct) args binds) (hloc : ∀ y ∈ binds, scope.names.lookup y.1 = some .local)
    (h : ∀ g L' h₁ tk, hideAll s.heap (news.map (·.1)) = g → Fr g L' h₁ (fun y => binds.reverse.lookup y) → News g L' h₁ news → (hd.heap_1_1 w.params).In g → Top p loose mean mg mb g →
      wpAny (model prog w) (A.deeper (envOf qual scope L' f cdv)) (execs body (envOf qual scope L' f cdv))
        (fun fl s' => R (.ok (.ret (match fl with | .ret v => v | _ => .none))) s')
        (fun e s' => wpAny (model prog w) (A.deeper (envOf qual scope L' f cdv)) (leaving (envOf qual scope L' f cdv) e) (fun _ s'' => R (.error e) s'') (fun e' s'' => R (.error e') s'') s')
        { s with heap := h₁, toks := tk })
    (hco : scope.isCoroutine = false) (hgen : scope.isGenerator = false) (hk : scope.kind = .function)
    (hcell : ∀ x ∈ scope.names, x.2 ≠ .cell) : codeAny (model prog w) A (.call (.ref f) args) R s := by
  obtain ⟨X, T⟩ := C.site
  have st : ∀ a o, (hideAll s.heap (news.map (·.1))).get? a = some o → s.heap.get? a = some o := fun a o e => of_hideAll _ e
  refine codeAny_call_def (fd := fnOf name qual params body scope dV kV doc pm an cdv ct) (body := body) (binds := binds) hroom (st _ _ (X _ _ ho)) rfl (T.nolimit.keeps st) (codeRec_of (X.keeps st) hcd) rfl hbind hcell hloc (fun h₁ hns hk₁ => ?_) hco hgen hk
  have F : Fr (hideAll s.heap (news.map (·.1))) s.heap.objs.size h₁ (fun y => binds.reverse.lookup y) := ⟨hns, fun b o e => hk₁ b o (st b o e), Nat.le_of_eq (hideAll_size _ _)⟩
  exact h _ s.heap.objs.size h₁ _ rfl F (fun q hq => ⟨hk₁ _ _ (hn q hq), Nat.ne_of_lt (Heap.lt_size (hn q hq)), hideAll_none _ (List.mem_map_of_mem hq)⟩) X T
end
theorem log_small {d : Int} (h : d.natAbs < 2 ^ 128) : d.natAbs.log2 < 9000 := by
  by_cases h0 : d.natAbs = 0
  · rw [h0]; decide
  · have := (Nat.log2_lt h0).mpr h; omega
section
variable {prog : Program} {w : World} {A : Around} {s : Shared} {mg mb : Str → Option Value} {p : Program} {loose : List Str} {mean : ExcName → Option Value}
theorem code_defC1 {R : Result → Shared → Prop} {name qual : Str} {params : Arguments} {body : List Stmt} {scope : Scope} {dV kV doc pm cdv ct oc : Value} {an od : Option Addr} {osl : Array (Option Value)} {f : Addr} {vals : List Value} {binds : List (Str × Value)} (news : List (Addr × Obj))
    (C : SiteN w p loose mean mg mb s.heap (news.map (·.1))) (hn : ∀ q ∈ news, s.heap.get? q.1 = some q.2)
    (ho : (hd.heap_1_1 w.params).lookup f = some ⟨oc, od, .func (fnOf name qual params body scope dV kV doc pm an cdv ct), osl⟩) (hcd : codeIn (hd.heap_1_1 w.params) cdv qual = true) (hroom : A.depth < recursionLimit)
    (hbind : bindArgs (fnOf name qual params body scope dV kV doc pm an cdv ct) ⟨vals, []⟩ = pure binds) (hkind : (binds.all fun y => scope.names.lookup y.1 == some .local || scope.names.lookup y.1 == some .cell) = true)
    (hnd : ((cellsFrom 0 scope.names []).map (·.1)).Nodup)
    (h : ∀ g L' h₁ tk cells, hideAll s.heap (news.map (·.1)) = g → Fr g L' h₁ (bindL (envOfC qual scope L' f cdv).kindOf binds fun _ => none) → News g L' h₁ (cells ++ news) →
      CellsAre (bindC (envOfC qual scope L' f cdv).kindOf binds fun _ => none) (cellsFrom (L' + 1) scope.names []) cells → (hd.heap_1_1 w.params).In g → Top p loose mean mg mb g → (∀ q ∈ news, q.1 < L') →
      wpAny (model prog w) (A.deeper (envOfC qual scope L' f cdv)) (execs body (envOfC qual scope L' f cdv))
        (fun fl s' => R (.ok (.ret (match fl with | .ret v => v | _ => .none))) s')
        (fun e s' => wpAny (model prog w) (A.deeper (envOfC qual scope L' f cdv)) (leaving (envOfC qual scope L' f cdv) e) (fun _ s'' => R (.error e) s'') (fun e' s'' => R (.error e') s'') s')
        { s with heap := h₁, toks := tk })
    (hco : scope.isCoroutine = false) (hgen : scope.isGenerator = false) (hk : scope.kind = .function) : codeAny (model prog w) A (.call (.ref f) ⟨vals, []⟩) R s := by
  obtain ⟨X, T⟩ := C.site
  have st : ∀ a o, (hideAll s.heap (news.map (·.1))).get? a = some o → s.heap.get? a = some o := fun a o e => of_hideAll _ e
  refine codeAny_call_cells (fd := fnOf name qual params body scope dV kV doc pm an cdv ct) (body := body) (binds := binds) hroom (st _ _ (X _ _ ho)) rfl (T.nolimit.keeps st) (codeRec_of (X.keeps st) hcd) rfl hbind rfl (kindsX hkind _) (fun s₁ x => ?_) hco hgen hk
  obtain ⟨h₁, tk, rfl, hk₁⟩ := x.done
  obtain ⟨cells, NC, Y⟩ := Cl.news (h₀ := s.heap) (Nat.le_refl _) fun n c hm => ⟨x.cell n c (lookup_of_mem_nodup (cellsFrom_names scope.names 0 (s.heap.objs.size + 1) [] [] rfl ▸ hnd) hm), x.above n c hm⟩
  have F : Fr (hideAll s.heap (news.map (·.1))) s.heap.objs.size h₁ _ := ⟨x.toInCall.ns, fun b o e => hk₁ b o (st b o e), Nat.le_of_eq (hideAll_size _ _)⟩
  refine h _ s.heap.objs.size h₁ tk cells rfl F (fun q hq => ?_) Y X T fun q hq => Heap.lt_size (hn q hq)
  rcases List.mem_append.mp hq with hq | hq
  · refine ⟨(NC q hq).1, (NC q hq).2.1, ?_⟩
    cases z : (hideAll s.heap (news.map (·.1))).get? q.1 with
    | none => rfl
    | some o => have := st _ _ z; rw [(NC q hq).2.2] at this; cases this
  · exact ⟨hk₁ _ _ (hn q hq), Nat.ne_of_lt (Heap.lt_size (hn q hq)), hideAll_none _ (List.mem_map_of_mem hq)⟩
end
section
variable {prog : Program} {w : World} {A : Around} {s : Shared} {mg mb : Str → Option Value} {p : Program} {loose : List Str} {mean : ExcName → Option Value}
theorem code_defC0 {R : Result → Shared → Prop} {name qual : Str} {params : Arguments} {body : List Stmt} {scope : Scope} {dV kV doc pm cdv ct oc : Value} {an od : Option Addr} {osl : Array (Option Value)} {f : Addr} {vals : List Value} {binds : List (Str × Value)}
    (X : (hd.heap_1_1 w.params).In s.heap) (T : Top p loose mean mg mb s.heap)
    (ho : (hd.heap_1_1 w.params).lookup f = some ⟨oc, od, .func (fnOf name qual params body scope dV kV doc pm an cdv ct), osl⟩) (hcd : codeIn (hd.heap_1_1 w.params) cdv qual = true) (hroom : A.depth < recursionLimit)
    (hbind : bindArgs (fnOf name qual params body scope dV kV doc pm an cdv ct) ⟨vals, []⟩ = pure binds) (hkind : (binds.all fun y => scope.names.lookup y.1 == some .local || scope.names.lookup y.1 == some .cell) = true)
    (hnd : ((cellsFrom 0 scope.names []).map (·.1)).Nodup)
    (h : ∀ L' h₁ tk cells, Fr s.heap L' h₁ (bindL (envOfC qual scope L' f cdv).kindOf binds fun _ => none) → News s.heap L' h₁ cells →
      CellsAre (bindC (envOfC qual scope L' f cdv).kindOf binds fun _ => none) (cellsFrom (L' + 1) scope.names []) cells →
      wpAny (model prog w) (A.deeper (envOfC qual scope L' f cdv)) (execs body (envOfC qual scope L' f cdv))
        (fun fl s' => R (.ok (.ret (match fl with | .ret v => v | _ => .none))) s')
        (fun e s' => wpAny (model prog w) (A.deeper (envOfC qual scope L' f cdv)) (leaving (envOfC qual scope L' f cdv) e) (fun _ s'' => R (.error e) s'') (fun e' s'' => R (.error e') s'') s')
        { s with heap := h₁, toks := tk })
    (hco : scope.isCoroutine = false) (hgen : scope.isGenerator = false) (hk : scope.kind = .function) : codeAny (model prog w) A (.call (.ref f) ⟨vals, []⟩) R s := by
  refine code_defC1 (loose := loose) (mean := mean) (mg := mg) (mb := mb) (p := p) [] ⟨s.heap, ⟨X, T⟩, fun _ _ e => e, fun _ h => nomatch h⟩ (fun _ h => nomatch h) ho hcd hroom hbind hkind hnd (fun g L' h₁ tk cells hg F N Y X T _ => ?_) hco hgen hk
  subst hg
  rw [List.append_nil] at N
  exact h L' h₁ tk cells F N Y
end
theorem log_mid {d : Int} (h : d.natAbs < 2 ^ 128) : d.natAbs.log2 < 1920 := by
  by_cases h0 : d.natAbs = 0
  · rw [h0]; decide
  · have := (Nat.log2_lt h0).mpr h; omega
noncomputable abbrev Keeps (h h' : Heap) : Prop := ∀ b o, h.get? b = some o → h'.get? b = some o
noncomputable abbrev Ret (s : Shared) (Q : Value → Shared → Prop) (P : Value → Heap → Prop) : Prop :=
  ∀ v h' tk', Keeps s.heap h' → P v h' → Q v { s with heap := h', toks := tk' }
theorem ret_int {s : Shared} {Q : Value → Shared → Prop} {x y : Int} {t : Tok} {h' : Heap} {tk' : Nat} (ret : Ret s Q fun v _ => ∃ tk, v = .int x tk) (k : Keeps s.heap h') (e : y = x) :
    Q (.int y t) { s with heap := h', toks := tk' } := ret _ _ _ k ⟨t, by rw [e]⟩
theorem ret_str {s : Shared} {Q : Value → Shared → Prop} {x y : Str} {t : Tok} {h' : Heap} {tk' : Nat} (ret : Ret s Q fun v _ => ∃ tk, v = .str x tk) (k : Keeps s.heap h') (e : y = x) :
    Q (.str y t) { s with heap := h', toks := tk' } := ret _ _ _ k ⟨t, by rw [e]⟩
theorem ret_bool {s : Shared} {Q : Value → Shared → Prop} {x y : Bool} {h' : Heap} {tk' : Nat} (ret : Ret s Q fun v _ => v = .bool x) (k : Keeps s.heap h') (e : y = x) :
    Q (.bool y) { s with heap := h', toks := tk' } := ret _ _ _ k (by rw [e])
theorem fr_on {h₀ h h' : Heap} {L : Addr} {m : Str → Option Value} (F : Fr h₀ L h m) (k : Keeps h h') : Fr h₀ L h' m := ⟨F.ns.keeps k, fun b o e => k b o (F.keep b o e), F.above⟩
theorem news_on {h₀ h h' : Heap} {L : Addr} {news : List (Addr × Obj)} (N : News h₀ L h news) (k : Keeps h h') : News h₀ L h' news := fun p hp => ⟨k _ _ (N p hp).1, (N p hp).2⟩
theorem Ret.one {s : Shared} {Q : Value → Shared → Prop} {c : Tok → Value} {h₀ : Heap} {L : Addr} {m : Str → Option Value} {news : List (Addr × Obj)} (F : Fr h₀ L s.heap m) (N : News h₀ L s.heap news) (k : ∀ t h' tk', Fr h₀ L h' m → News h₀ L h' news → Q (c t) { s with heap := h', toks := tk' }) : Ret s Q fun v _ => ∃ tk, v = c tk := fun v h' tk' kp e => by
  obtain ⟨t, rfl⟩ := e
  exact k t h' tk' (fr_on F kp) (news_on N kp)
theorem tup_new {h₀ h : Heap} {L a : Addr} {news : List (Addr × Obj)} {l : List Value} (N : News h₀ L h news) (hm : (a, ({ cls := .type "tuple", data := .seq l.toArray } : Obj)) ∈ news) : IsTup h a l.toArray := ⟨_, (N _ hm).1, rfl, _, rfl⟩
theorem ret_new {s : Shared} {Q : Value → Shared → Prop} {P : Value → Heap → Prop} {r L : Addr} {o : Obj} {m : Str → Option Value} {rest : List (Addr × Obj)} {h' : Heap} {tk' : Nat} (ret : Ret s Q P) (F : Fr s.heap L h' m) (N : News s.heap L h' ((r, o) :: rest))
    (hp : s.heap.get? r = none → h'.get? r = some o → P (.ref r) h') : Q (.ref r) { s with heap := h', toks := tk' } := ret _ _ _ F.keep (hp (N _ (.head _)).2.2 (N _ (.head _)).1)
noncomputable def zabs (n : Int) : Int := if n < 0 then -n else n
theorem zabs_eq (n : Int) : zabs n = (n.natAbs : Int) := by unfold zabs; split <;> omega
theorem call_abs_z {prog : Program} {w : World} {A : Around} {E : Value → Shared → Prop} {s : Shared} {a : Int} {t : Tok} {Q : Value → Shared → Prop} (h : ∀ u tk, Q (.int (zabs a) u) { s with toks := tk }) :
    wpAny (model prog w) A (call (.builtin "abs") [.int a t]) Q E s := call_abs_int h
theorem kstE {m : Str → Option Value} {x z : Str} {v : Value} (h : m x = some v) : (if z = x then some v else m z) = m z := by
  by_cases q : z = x
  · rw [if_pos q, q, h]
  · rw [if_neg q]
theorem kst1 {h₀ h : Heap} {L : Addr} {m : Str → Option Value} {x1 : Str} {v1 : Value} (a : m x1 = some v1) (F : Fr h₀ L h m) : Fr h₀ L h (fun z => if z = x1 then some v1 else m z) := by
  rw [show (fun z => if z = x1 then some v1 else m z) = m from funext fun z => by rw [kstE a]]; exact F
theorem kst2 {h₀ h : Heap} {L : Addr} {m : Str → Option Value} {x1 x2 : Str} {v1 v2 : Value} (a : m x1 = some v1 ∧ m x2 = some v2) (F : Fr h₀ L h m) : Fr h₀ L h (fun z => if z = x1 then some v1 else if z = x2 then some v2 else m z) := by
  rw [show (fun z => if z = x1 then some v1 else if z = x2 then some v2 else m z) = m from funext fun z => by rw [kstE a.2, kstE a.1]]; exact F
theorem kst3 {h₀ h : Heap} {L : Addr} {m : Str → Option Value} {x1 x2 x3 : Str} {v1 v2 v3 : Value} (a : m x1 = some v1 ∧ m x2 = some v2 ∧ m x3 = some v3) (F : Fr h₀ L h m) : Fr h₀ L h (fun z => if z = x1 then some v1 else if z = x2 then some v2 else if z = x3 then some v3 else m z) := by
  rw [show (fun z => if z = x1 then some v1 else if z = x2 then some v2 else if z = x3 then some v3 else m z) = m from funext fun z => by rw [kstE a.2.2, kstE a.2.1, kstE a.1]]; exact F
theorem kst4 {h₀ h : Heap} {L : Addr} {m : Str → Option Value} {x1 x2 x3 x4 : Str} {v1 v2 v3 v4 : Value} (a : m x1 = some v1 ∧ m x2 = some v2 ∧ m x3 = some v3 ∧ m x4 = some v4) (F : Fr h₀ L h m) : Fr h₀ L h (fun z => if z = x1 then some v1 else if z = x2 then some v2 else if z = x3 then some v3 else if z = x4 then some v4 else m z) := by
  rw [show (fun z => if z = x1 then some v1 else if z = x2 then some v2 else if z = x3 then some v3 else if z = x4 then some v4 else m z) = m from funext fun z => by rw [kstE a.2.2.2, kstE a.2.2.1, kstE a.2.1, kstE a.1]]; exact F
theorem kst5 {h₀ h : Heap} {L : Addr} {m : Str → Option Value} {x1 x2 x3 x4 x5 : Str} {v1 v2 v3 v4 v5 : Value} (a : m x1 = some v1 ∧ m x2 = some v2 ∧ m x3 = some v3 ∧ m x4 = some v4 ∧ m x5 = some v5) (F : Fr h₀ L h m) : Fr h₀ L h (fun z => if z = x1 then some v1 else if z = x2 then some v2 else if z = x3 then some v3 else if z = x4 then some v4 else if z = x5 then some v5 else m z) := by
  rw [show (fun z => if z = x1 then some v1 else if z = x2 then some v2 else if z = x3 then some v3 else if z = x4 then some v4 else if z = x5 then some v5 else m z) = m from funext fun z => by rw [kstE a.2.2.2.2, kstE a.2.2.2.1, kstE a.2.2.1, kstE a.2.1, kstE a.1]]; exact F
theorem kst7 {h₀ h : Heap} {L : Addr} {m : Str → Option Value} {x1 x2 x3 x4 x5 x6 x7 : Str} {v1 v2 v3 v4 v5 v6 v7 : Value} (a : m x1 = some v1 ∧ m x2 = some v2 ∧ m x3 = some v3 ∧ m x4 = some v4 ∧ m x5 = some v5 ∧ m x6 = some v6 ∧ m x7 = some v7) (F : Fr h₀ L h m) : Fr h₀ L h (fun z => if z = x1 then some v1 else if z = x2 then some v2 else if z = x3 then some v3 else if z = x4 then some v4 else if z = x5 then some v5 else if z = x6 then some v6 else if z = x7 then some v7 else m z) := by
  rw [show (fun z => if z = x1 then some v1 else if z = x2 then some v2 else if z = x3 then some v3 else if z = x4 then some v4 else if z = x5 then some v5 else if z = x6 then some v6 else if z = x7 then some v7 else m z) = m from funext fun z => by rw [kstE a.2.2.2.2.2.2, kstE a.2.2.2.2.2.1, kstE a.2.2.2.2.1, kstE a.2.2.2.1, kstE a.2.2.1, kstE a.2.1, kstE a.1]]; exact F
theorem kstu1 {h₀ h : Heap} {L : Addr} {m : Str → Option Value} {x0 x1 : Str} {v0 : Option Value} {v1 : Value} (a : m x1 = some v1) (F : Fr h₀ L h (fun z => if z = x0 then v0 else m z)) : Fr h₀ L h (fun z => if z = x0 then v0 else if z = x1 then some v1 else m z) := by
  rw [show (fun z => if z = x0 then v0 else if z = x1 then some v1 else m z) = (fun z => if z = x0 then v0 else m z) from funext fun z => by rw [kstE a]]; exact F
theorem kstu2 {h₀ h : Heap} {L : Addr} {m : Str → Option Value} {x0 x1 x2 : Str} {v0 : Option Value} {v1 v2 : Value} (a : m x1 = some v1 ∧ m x2 = some v2) (F : Fr h₀ L h (fun z => if z = x0 then v0 else m z)) : Fr h₀ L h (fun z => if z = x0 then v0 else if z = x1 then some v1 else if z = x2 then some v2 else m z) := by
  rw [show (fun z => if z = x0 then v0 else if z = x1 then some v1 else if z = x2 then some v2 else m z) = (fun z => if z = x0 then v0 else m z) from funext fun z => by rw [kstE a.2, kstE a.1]]; exact F
theorem kstu4 {h₀ h : Heap} {L : Addr} {m : Str → Option Value} {x0 x1 x2 x3 x4 : Str} {v0 : Option Value} {v1 v2 v3 v4 : Value} (a : m x1 = some v1 ∧ m x2 = some v2 ∧ m x3 = some v3 ∧ m x4 = some v4) (F : Fr h₀ L h (fun z => if z = x0 then v0 else m z)) : Fr h₀ L h (fun z => if z = x0 then v0 else if z = x1 then some v1 else if z = x2 then some v2 else if z = x3 then some v3 else if z = x4 then some v4 else m z) := by
  rw [show (fun z => if z = x0 then v0 else if z = x1 then some v1 else if z = x2 then some v2 else if z = x3 then some v3 else if z = x4 then some v4 else m z) = (fun z => if z = x0 then v0 else m z) from funext fun z => by rw [kstE a.2.2.2, kstE a.2.2.1, kstE a.2.1, kstE a.1]]; exact F
theorem kstu5 {h₀ h : Heap} {L : Addr} {m : Str → Option Value} {x0 x1 x2 x3 x4 x5 : Str} {v0 : Option Value} {v1 v2 v3 v4 v5 : Value} (a : m x1 = some v1 ∧ m x2 = some v2 ∧ m x3 = some v3 ∧ m x4 = some v4 ∧ m x5 = some v5) (F : Fr h₀ L h (fun z => if z = x0 then v0 else m z)) : Fr h₀ L h (fun z => if z = x0 then v0 else if z = x1 then some v1 else if z = x2 then some v2 else if z = x3 then some v3 else if z = x4 then some v4 else if z = x5 then some v5 else m z) := by
  rw [show (fun z => if z = x0 then v0 else if z = x1 then some v1 else if z = x2 then some v2 else if z = x3 then some v3 else if z = x4 then some v4 else if z = x5 then some v5 else m z) = (fun z => if z = x0 then v0 else m z) from funext fun z => by rw [kstE a.2.2.2.2, kstE a.2.2.2.1, kstE a.2.2.1, kstE a.2.1, kstE a.1]]; exact F
theorem kstu7 {h₀ h : Heap} {L : Addr} {m : Str → Option Value} {x0 x1 x2 x3 x4 x5 x6 x7 : Str} {v0 : Option Value} {v1 v2 v3 v4 v5 v6 v7 : Value} (a : m x1 = some v1 ∧ m x2 = some v2 ∧ m x3 = some v3 ∧ m x4 = some v4 ∧ m x5 = some v5 ∧ m x6 = some v6 ∧ m x7 = some v7) (F : Fr h₀ L h (fun z => if z = x0 then v0 else m z)) : Fr h₀ L h (fun z => if z = x0 then v0 else if z = x1 then some v1 else if z = x2 then some v2 else if z = x3 then some v3 else if z = x4 then some v4 else if z = x5 then some v5 else if z = x6 then some v6 else if z = x7 then some v7 else m z) := by
  rw [show (fun z => if z = x0 then v0 else if z = x1 then some v1 else if z = x2 then some v2 else if z = x3 then some v3 else if z = x4 then some v4 else if z = x5 then some v5 else if z = x6 then some v6 else if z = x7 then some v7 else m z) = (fun z => if z = x0 then v0 else m z) from funext fun z => by rw [kstE a.2.2.2.2.2.2, kstE a.2.2.2.2.2.1, kstE a.2.2.2.2.1, kstE a.2.2.2.1, kstE a.2.2.1, kstE a.2.1, kstE a.1]]; exact F
noncomputable def AllNe (r : Addr) : List (Addr × Obj) → Prop
  | [] => True
  | p :: l => (@Ne Nat p.1 r) ∧ AllNe r l
theorem allNe_of {h₀ h : Heap} {L r : Addr} (q : h.get? r = none) : ∀ {news : List (Addr × Obj)}, News h₀ L h news → AllNe r news
  | [], _ => trivial
  | p :: l, N => by
    refine ⟨fun e => ?_, allNe_of q fun x hx => N x (.tail _ hx)⟩
    have := (N p (.head _)).1
    rw [e, q] at this
    cases this
noncomputable def Held (P : Prop) : Prop := P
theorem Held.go {P : Prop} (h : Held P) : P := h
theorem cj0 {p q : Prop} (h : p ∧ q) : p := h.1
theorem cj1 {x0 p q : Prop} (h : x0 ∧ p ∧ q) : p := h.2.1
theorem cj2 {x0 x1 p q : Prop} (h : x0 ∧ x1 ∧ p ∧ q) : p := h.2.2.1
theorem cj3 {x0 x1 x2 p q : Prop} (h : x0 ∧ x1 ∧ x2 ∧ p ∧ q) : p := h.2.2.2.1
theorem cj4 {x0 x1 x2 x3 p q : Prop} (h : x0 ∧ x1 ∧ x2 ∧ x3 ∧ p ∧ q) : p := h.2.2.2.2.1
theorem cj5 {x0 x1 x2 x3 x4 p q : Prop} (h : x0 ∧ x1 ∧ x2 ∧ x3 ∧ x4 ∧ p ∧ q) : p := h.2.2.2.2.2.1
theorem cj6 {x0 x1 x2 x3 x4 x5 p q : Prop} (h : x0 ∧ x1 ∧ x2 ∧ x3 ∧ x4 ∧ x5 ∧ p ∧ q) : p := h.2.2.2.2.2.2.1
theorem cj7 {x0 x1 x2 x3 x4 x5 x6 p q : Prop} (h : x0 ∧ x1 ∧ x2 ∧ x3 ∧ x4 ∧ x5 ∧ x6 ∧ p ∧ q) : p := h.2.2.2.2.2.2.2.1
theorem cj8 {x0 x1 x2 x3 x4 x5 x6 x7 p q : Prop} (h : x0 ∧ x1 ∧ x2 ∧ x3 ∧ x4 ∧ x5 ∧ x6 ∧ x7 ∧ p ∧ q) : p := h.2.2.2.2.2.2.2.2.1
theorem cj9 {x0 x1 x2 x3 x4 x5 x6 x7 x8 p q : Prop} (h : x0 ∧ x1 ∧ x2 ∧ x3 ∧ x4 ∧ x5 ∧ x6 ∧ x7 ∧ x8 ∧ p ∧ q) : p := h.2.2.2.2.2.2.2.2.2.1
theorem cj10 {x0 x1 x2 x3 x4 x5 x6 x7 x8 x9 p q : Prop} (h : x0 ∧ x1 ∧ x2 ∧ x3 ∧ x4 ∧ x5 ∧ x6 ∧ x7 ∧ x8 ∧ x9 ∧ p ∧ q) : p := h.2.2.2.2.2.2.2.2.2.2.1
theorem cj11 {x0 x1 x2 x3 x4 x5 x6 x7 x8 x9 x10 p q : Prop} (h : x0 ∧ x1 ∧ x2 ∧ x3 ∧ x4 ∧ x5 ∧ x6 ∧ x7 ∧ x8 ∧ x9 ∧ x10 ∧ p ∧ q) : p := h.2.2.2.2.2.2.2.2.2.2.2.1
theorem cj12 {x0 x1 x2 x3 x4 x5 x6 x7 x8 x9 x10 x11 p q : Prop} (h : x0 ∧ x1 ∧ x2 ∧ x3 ∧ x4 ∧ x5 ∧ x6 ∧ x7 ∧ x8 ∧ x9 ∧ x10 ∧ x11 ∧ p ∧ q) : p := h.2.2.2.2.2.2.2.2.2.2.2.2.1
theorem cj13 {x0 x1 x2 x3 x4 x5 x6 x7 x8 x9 x10 x11 x12 p q : Prop} (h : x0 ∧ x1 ∧ x2 ∧ x3 ∧ x4 ∧ x5 ∧ x6 ∧ x7 ∧ x8 ∧ x9 ∧ x10 ∧ x11 ∧ x12 ∧ p ∧ q) : p := h.2.2.2.2.2.2.2.2.2.2.2.2.2.1
theorem cj14 {x0 x1 x2 x3 x4 x5 x6 x7 x8 x9 x10 x11 x12 x13 p q : Prop} (h : x0 ∧ x1 ∧ x2 ∧ x3 ∧ x4 ∧ x5 ∧ x6 ∧ x7 ∧ x8 ∧ x9 ∧ x10 ∧ x11 ∧ x12 ∧ x13 ∧ p ∧ q) : p := h.2.2.2.2.2.2.2.2.2.2.2.2.2.2.1
theorem ck1 {x0 p : Prop} (h : x0 ∧ p) : p := h.2
theorem ck2 {x0 x1 p : Prop} (h : x0 ∧ x1 ∧ p) : p := h.2.2
theorem ck3 {x0 x1 x2 p : Prop} (h : x0 ∧ x1 ∧ x2 ∧ p) : p := h.2.2.2
theorem ck4 {x0 x1 x2 x3 p : Prop} (h : x0 ∧ x1 ∧ x2 ∧ x3 ∧ p) : p := h.2.2.2.2
theorem ck5 {x0 x1 x2 x3 x4 p : Prop} (h : x0 ∧ x1 ∧ x2 ∧ x3 ∧ x4 ∧ p) : p := h.2.2.2.2.2
theorem ck6 {x0 x1 x2 x3 x4 x5 p : Prop} (h : x0 ∧ x1 ∧ x2 ∧ x3 ∧ x4 ∧ x5 ∧ p) : p := h.2.2.2.2.2.2
theorem ck7 {x0 x1 x2 x3 x4 x5 x6 p : Prop} (h : x0 ∧ x1 ∧ x2 ∧ x3 ∧ x4 ∧ x5 ∧ x6 ∧ p) : p := h.2.2.2.2.2.2.2
theorem ck8 {x0 x1 x2 x3 x4 x5 x6 x7 p : Prop} (h : x0 ∧ x1 ∧ x2 ∧ x3 ∧ x4 ∧ x5 ∧ x6 ∧ x7 ∧ p) : p := h.2.2.2.2.2.2.2.2
theorem ck9 {x0 x1 x2 x3 x4 x5 x6 x7 x8 p : Prop} (h : x0 ∧ x1 ∧ x2 ∧ x3 ∧ x4 ∧ x5 ∧ x6 ∧ x7 ∧ x8 ∧ p) : p := h.2.2.2.2.2.2.2.2.2
theorem ck10 {x0 x1 x2 x3 x4 x5 x6 x7 x8 x9 p : Prop} (h : x0 ∧ x1 ∧ x2 ∧ x3 ∧ x4 ∧ x5 ∧ x6 ∧ x7 ∧ x8 ∧ x9 ∧ p) : p := h.2.2.2.2.2.2.2.2.2.2
theorem ck11 {x0 x1 x2 x3 x4 x5 x6 x7 x8 x9 x10 p : Prop} (h : x0 ∧ x1 ∧ x2 ∧ x3 ∧ x4 ∧ x5 ∧ x6 ∧ x7 ∧ x8 ∧ x9 ∧ x10 ∧ p) : p := h.2.2.2.2.2.2.2.2.2.2.2
theorem ck12 {x0 x1 x2 x3 x4 x5 x6 x7 x8 x9 x10 x11 p : Prop} (h : x0 ∧ x1 ∧ x2 ∧ x3 ∧ x4 ∧ x5 ∧ x6 ∧ x7 ∧ x8 ∧ x9 ∧ x10 ∧ x11 ∧ p) : p := h.2.2.2.2.2.2.2.2.2.2.2.2
theorem ck13 {x0 x1 x2 x3 x4 x5 x6 x7 x8 x9 x10 x11 x12 p : Prop} (h : x0 ∧ x1 ∧ x2 ∧ x3 ∧ x4 ∧ x5 ∧ x6 ∧ x7 ∧ x8 ∧ x9 ∧ x10 ∧ x11 ∧ x12 ∧ p) : p := h.2.2.2.2.2.2.2.2.2.2.2.2.2
theorem ck14 {x0 x1 x2 x3 x4 x5 x6 x7 x8 x9 x10 x11 x12 x13 p : Prop} (h : x0 ∧ x1 ∧ x2 ∧ x3 ∧ x4 ∧ x5 ∧ x6 ∧ x7 ∧ x8 ∧ x9 ∧ x10 ∧ x11 ∧ x12 ∧ x13 ∧ p) : p := h.2.2.2.2.2.2.2.2.2.2.2.2.2.2
theorem lt_tr {a b m : Nat} (h2 : m < b) (h1 : a < m) : a < b := Nat.lt_trans h1 h2
theorem lt_s1 {a : Nat} : a < a + 1 := Nat.lt_succ_self a
theorem lt_s2 {a : Nat} : a < a + 1 + 1 := by omega
theorem lt_s3 {a : Nat} : a < a + 1 + 1 + 1 := by omega
theorem lt_up {a b : Nat} (h : a < b) : a < b + 1 := by omega
theorem lt_dn {a b : Nat} (h : a + 1 < b) : a < b := by omega
theorem dlt0 {a b n : Nat} (h : a + b < n) : a < n := by omega
theorem dlt1 {a b c n : Nat} (h : a + b < n) (e : Nat.ble c b = true) : a + c < n := by have := Nat.le_of_ble_eq_true e; omega
theorem dlt2 {a b c d n : Nat} (h : a + b < n) (e : Nat.ble (c + d) b = true) : a + c + d < n := by have := Nat.le_of_ble_eq_true e; omega
theorem dlt3 {a b c d f n : Nat} (h : a + b < n) (e : Nat.ble (c + d + f) b = true) : a + c + d + f < n := by have := Nat.le_of_ble_eq_true e; omega
theorem dlt4 {a b c d f g n : Nat} (h : a + b < n) (e : Nat.ble (c + d + f + g) b = true) : a + c + d + f + g < n := by have := Nat.le_of_ble_eq_true e; omega
theorem dlt5 {a b c d f g i n : Nat} (h : a + b < n) (e : Nat.ble (c + d + f + g + i) b = true) : a + c + d + f + g + i < n := by have := Nat.le_of_ble_eq_true e; omega
theorem mem0 {a : Addr × Obj} {l : List (Addr × Obj)} : a ∈ a :: l := .head _
theorem mem1 {b0 a : Addr × Obj} {l : List (Addr × Obj)} : a ∈ b0 :: a :: l := .tail _ mem0
theorem mem2 {b0 b1 a : Addr × Obj} {l : List (Addr × Obj)} : a ∈ b0 :: b1 :: a :: l := .tail _ mem1
theorem mem3 {b0 b1 b2 a : Addr × Obj} {l : List (Addr × Obj)} : a ∈ b0 :: b1 :: b2 :: a :: l := .tail _ mem2
theorem mem4 {b0 b1 b2 b3 a : Addr × Obj} {l : List (Addr × Obj)} : a ∈ b0 :: b1 :: b2 :: b3 :: a :: l := .tail _ mem3
theorem mem5 {b0 b1 b2 b3 b4 a : Addr × Obj} {l : List (Addr × Obj)} : a ∈ b0 :: b1 :: b2 :: b3 :: b4 :: a :: l := .tail _ mem4
theorem mem6 {b0 b1 b2 b3 b4 b5 a : Addr × Obj} {l : List (Addr × Obj)} : a ∈ b0 :: b1 :: b2 :: b3 :: b4 :: b5 :: a :: l := .tail _ mem5
theorem mem7 {b0 b1 b2 b3 b4 b5 b6 a : Addr × Obj} {l : List (Addr × Obj)} : a ∈ b0 :: b1 :: b2 :: b3 :: b4 :: b5 :: b6 :: a :: l := .tail _ mem6
theorem mem8 {b0 b1 b2 b3 b4 b5 b6 b7 a : Addr × Obj} {l : List (Addr × Obj)} : a ∈ b0 :: b1 :: b2 :: b3 :: b4 :: b5 :: b6 :: b7 :: a :: l := .tail _ mem7
theorem mem9 {b0 b1 b2 b3 b4 b5 b6 b7 b8 a : Addr × Obj} {l : List (Addr × Obj)} : a ∈ b0 :: b1 :: b2 :: b3 :: b4 :: b5 :: b6 :: b7 :: b8 :: a :: l := .tail _ mem8
theorem mem10 {b0 b1 b2 b3 b4 b5 b6 b7 b8 b9 a : Addr × Obj} {l : List (Addr × Obj)} : a ∈ b0 :: b1 :: b2 :: b3 :: b4 :: b5 :: b6 :: b7 :: b8 :: b9 :: a :: l := .tail _ mem9
theorem mem11 {b0 b1 b2 b3 b4 b5 b6 b7 b8 b9 b10 a : Addr × Obj} {l : List (Addr × Obj)} : a ∈ b0 :: b1 :: b2 :: b3 :: b4 :: b5 :: b6 :: b7 :: b8 :: b9 :: b10 :: a :: l := .tail _ mem10
theorem mem12 {b0 b1 b2 b3 b4 b5 b6 b7 b8 b9 b10 b11 a : Addr × Obj} {l : List (Addr × Obj)} : a ∈ b0 :: b1 :: b2 :: b3 :: b4 :: b5 :: b6 :: b7 :: b8 :: b9 :: b10 :: b11 :: a :: l := .tail _ mem11
theorem mem13 {b0 b1 b2 b3 b4 b5 b6 b7 b8 b9 b10 b11 b12 a : Addr × Obj} {l : List (Addr × Obj)} : a ∈ b0 :: b1 :: b2 :: b3 :: b4 :: b5 :: b6 :: b7 :: b8 :: b9 :: b10 :: b11 :: b12 :: a :: l := .tail _ mem12
theorem mem14 {b0 b1 b2 b3 b4 b5 b6 b7 b8 b9 b10 b11 b12 b13 a : Addr × Obj} {l : List (Addr × Obj)} : a ∈ b0 :: b1 :: b2 :: b3 :: b4 :: b5 :: b6 :: b7 :: b8 :: b9 :: b10 :: b11 :: b12 :: b13 :: a :: l := .tail _ mem13
theorem mem15 {b0 b1 b2 b3 b4 b5 b6 b7 b8 b9 b10 b11 b12 b13 b14 a : Addr × Obj} {l : List (Addr × Obj)} : a ∈ b0 :: b1 :: b2 :: b3 :: b4 :: b5 :: b6 :: b7 :: b8 :: b9 :: b10 :: b11 :: b12 :: b13 :: b14 :: a :: l := .tail _ mem14
theorem memS {b0 b1 b2 b3 b4 b5 b6 b7 b8 b9 b10 b11 b12 b13 b14 b15 a : Addr × Obj} {l : List (Addr × Obj)} (h : a ∈ l) : a ∈ b0 :: b1 :: b2 :: b3 :: b4 :: b5 :: b6 :: b7 :: b8 :: b9 :: b10 :: b11 :: b12 :: b13 :: b14 :: b15 :: l := .tail _ (.tail _ (.tail _ (.tail _ (.tail _ (.tail _ (.tail _ (.tail _ (.tail _ (.tail _ (.tail _ (.tail _ (.tail _ (.tail _ (.tail _ (.tail _ (h))))))))))))))))
theorem al0 {d : Nat} : ∀ p ∈ ([] : List (Addr × Obj)), p.1 ≠ d := fun _ h => nomatch h
theorem al1 {x d : Nat} {o : Obj} {l : List (Addr × Obj)} (h : x ≠ d) (t : ∀ p ∈ l, p.1 ≠ d) : ∀ p ∈ (x, o) :: l, p.1 ≠ d := List.forall_mem_cons.mpr ⟨h, t⟩
example : True := by
 (k_with "call builtin:abs" => (((with_reducible refine call_abs_z ?_); intro _ _)))
 exact True.intro
example : True := by
 (k_with "binaryOp FloorDiv int int" => ((with_reducible refine floordiv_int ?kbe ?_ (Or.inl (PyProof.noPylong_of_log2 ?kbp)); (case kbe => omega); (case kbp => exact log_small (by omega)))))
 exact True.intro
example : True := by
 (k_with "call type:str" => (((with_reducible refine P.str_of_int ?ka ?_); (case ka => first | k_extra "tb_rel" | exact log_mid (by omega)))))
 exact True.intro
example : True := by
 (k_with "tb_start" => ((refine wpAny_call ?_; k_dflt (refine' code_def0 ?k3 ?k5 ?k6 ?k7 ?k8 ?k9 ?kB ?_ ?c2 ?c3 ?c4 ?c5; (case k3 => k_asm); (case k5 => k_asm); (case k6 => k_is); (case k7 => k_is); (case k8 => k_extra "ktr_unf"); (case k9 => first | exact binds_of rfl | exact BindsTo.of_eq rfl | exact binds_K (by k_in) rfl (by k_is) rfl rfl rfl | fail "the arguments"); (case c5 => decide); (case kB => exact locs rfl); (case c2 => exact rfl); (case c3 => exact rfl); (case c4 => exact rfl); k_whole; intro L' h' tk' F' N'; (try dsimp only); (try k_fold)))))
 exact True.intro
example : True := by
 (k_with "dlt" => (first | with_reducible assumption | exact dlt1 (by with_reducible assumption) (by exact rfl) | exact dlt2 (by with_reducible assumption) (by exact rfl) | exact dlt3 (by with_reducible assumption) (by exact rfl) | exact dlt4 (by with_reducible assumption) (by exact rfl) | exact dlt5 (by with_reducible assumption) (by exact rfl) | exact dlt0 (by with_reducible assumption)))
 exact True.intro
example : True := by
 (k_with "ktr_unf" => (first | k_extra "dlt" | ((try dsimp only [At, Around.deeper, Around.under, Around.mark, Around.in1]); k_extra "dlt") | omega | (simp only [depth_under_make, depth_under_kw, depth_in1, depth_deeper, depth_caller]; omega) | ((try dsimp only [At, Around.deeper, Around.under, Around.mark, Around.in1]); omega)))
 exact True.intro
example : True := by
 (k_with "ktr_rel" => (first | assumption | exact ⟨Frag.In.keeps (by k_asm) (Fr.keep (by k_asm)), Top.keeps (by k_asm) (Fr.keep (by k_asm))⟩))
 exact True.intro
example : True := by
 (k_with "ktr_units" => (first | with_reducible assumption | exact stays_tup (Fr.keep (by k_asm)) (by assumption) | exact tup_new (by k_asm) (by k_mem) | exact News.isList (by k_asm) (by k_mem) | exact stays_list (Fr.keep (by k_asm)) (by assumption)))
 exact True.intro
example : True := by
 (k_with "kwd_inv" => ((refine wpAny_call ?_; k_dflt (refine' code_defN _ ?k3 ?k5 ?k6 ?k7 ?k8 ?k9 ?kB ?_ ?c2 ?c3 ?c4 ?c5; (case k3 => k_asm); (case k5 => k_asm); (case k6 => k_is); (case k7 => k_is); (case k8 => k_extra "ktr_unf"); (case k9 => first | exact binds_of rfl | exact BindsTo.of_eq rfl | exact binds_K (by k_in) rfl (by k_is) rfl rfl rfl | fail "the arguments"); (case c5 => decide); (case kB => exact locs rfl); (case c2 => exact rfl); (case c3 => exact rfl); (case c4 => exact rfl); k_whole; intro g₁ L₁ h₁ tk₁ hg₁ F₁ N₁ X₁ T₁; (try dsimp only); (try k_fold)))))
 exact True.intro
example : True := by
 (k_with "kwd_less" => ((refine wpAny_call ?_; k_dflt (refine' code_defC1 _ ?k3 ?k5 ?k6 ?k7 ?k8 ?k9 ?kB ?kD ?_ ?c2 ?c3 ?c4; (case k3 => k_asm); (case k5 => k_asm); (case k6 => k_is); (case k7 => k_is); (case k8 => k_extra "ktr_unf"); (case k9 => first | exact binds_c rfl | exact rfl); (case kB => exact rfl); (case kD => decide +kernel); (case c2 => exact rfl); (case c3 => exact rfl); (case c4 => exact rfl); k_whole; intro g' L' h' tk' cells' hg' F' N' Y' X' T' l1; (try k_lt l1); k_cells Y'; (try simp only [List.cons_append, List.nil_append] at N'); (try dsimp only); (try k_fold)))))
 exact True.intro
example : True := by
 (k_with "kd_adr" => ((refine wpAny_call ?_; k_dflt (refine' code_defC0 ?k3 ?k4 ?k6 ?k7 ?k8 ?k9 ?kB ?kD ?_ ?c2 ?c3 ?c4; (case k3 => k_asm); (case k4 => k_asm); (case k6 => k_is); (case k7 => k_is); (case k8 => k_extra "ktr_unf"); (case k9 => first | exact binds_c rfl | exact rfl); (case kB => exact rfl); (case kD => decide +kernel); (case c2 => exact rfl); (case c3 => exact rfl); (case c4 => exact rfl); k_whole; intro L' h' tk' cells' F' N' Y'; k_cells Y'; (try simp only [List.cons_append, List.nil_append] at N'); (try dsimp only); (try k_fold)))))
 exact True.intro
example : True := by
 (k_with "cj" => (first | exact cj0 (by with_reducible assumption) | exact cj1 (by with_reducible assumption) | exact cj2 (by with_reducible assumption) | exact cj3 (by with_reducible assumption) | exact cj4 (by with_reducible assumption) | exact cj5 (by with_reducible assumption) | exact cj6 (by with_reducible assumption) | exact cj7 (by with_reducible assumption) | exact cj8 (by with_reducible assumption) | exact cj9 (by with_reducible assumption) | exact cj10 (by with_reducible assumption) | exact cj11 (by with_reducible assumption) | exact cj12 (by with_reducible assumption) | exact cj13 (by with_reducible assumption) | exact cj14 (by with_reducible assumption) | exact ck1 (by with_reducible assumption) | exact ck2 (by with_reducible assumption) | exact ck3 (by with_reducible assumption) | exact ck4 (by with_reducible assumption) | exact ck5 (by with_reducible assumption) | exact ck6 (by with_reducible assumption) | exact ck7 (by with_reducible assumption) | exact ck8 (by with_reducible assumption) | exact ck9 (by with_reducible assumption) | exact ck10 (by with_reducible assumption) | exact ck11 (by with_reducible assumption) | exact ck12 (by with_reducible assumption) | exact ck13 (by with_reducible assumption) | exact ck14 (by with_reducible assumption)))
 exact True.intro
example : True := by
 (k_with "cjn" => (first | exact cj0 (cj0 (by with_reducible assumption)) | exact cj0 (cj1 (by with_reducible assumption)) | exact cj0 (cj2 (by with_reducible assumption)) | exact cj0 (cj3 (by with_reducible assumption)) | exact cj0 (cj4 (by with_reducible assumption)) | exact cj0 (cj5 (by with_reducible assumption)) | exact cj0 (cj6 (by with_reducible assumption)) | exact cj0 (cj7 (by with_reducible assumption)) | exact cj0 (cj8 (by with_reducible assumption)) | exact cj0 (cj9 (by with_reducible assumption)) | exact cj0 (cj10 (by with_reducible assumption)) | exact cj0 (ck1 (by with_reducible assumption)) | exact cj0 (ck2 (by with_reducible assumption)) | exact cj0 (ck3 (by with_reducible assumption)) | exact cj0 (ck4 (by with_reducible assumption)) | exact cj0 (ck5 (by with_reducible assumption)) | exact cj0 (ck6 (by with_reducible assumption)) | exact cj0 (ck7 (by with_reducible assumption)) | exact cj0 (ck8 (by with_reducible assumption)) | exact cj0 (ck9 (by with_reducible assumption)) | exact cj0 (ck10 (by with_reducible assumption)) | exact cj1 (cj0 (by with_reducible assumption)) | exact cj1 (cj1 (by with_reducible assumption)) | exact cj1 (cj2 (by with_reducible assumption)) | exact cj1 (cj3 (by with_reducible assumption)) | exact cj1 (cj4 (by with_reducible assumption)) | exact cj1 (cj5 (by with_reducible assumption)) | exact cj1 (cj6 (by with_reducible assumption)) | exact cj1 (cj7 (by with_reducible assumption)) | exact cj1 (cj8 (by with_reducible assumption)) | exact cj1 (cj9 (by with_reducible assumption)) | exact cj1 (cj10 (by with_reducible assumption)) | exact cj1 (ck1 (by with_reducible assumption)) | exact cj1 (ck2 (by with_reducible assumption)) | exact cj1 (ck3 (by with_reducible assumption)) | exact cj1 (ck4 (by with_reducible assumption)) | exact cj1 (ck5 (by with_reducible assumption)) | exact cj1 (ck6 (by with_reducible assumption)) | exact cj1 (ck7 (by with_reducible assumption)) | exact cj1 (ck8 (by with_reducible assumption)) | exact cj1 (ck9 (by with_reducible assumption)) | exact cj1 (ck10 (by with_reducible assumption)) | exact ck1 (cj0 (by with_reducible assumption)) | exact ck1 (cj1 (by with_reducible assumption)) | exact ck1 (cj2 (by with_reducible assumption)) | exact ck1 (cj3 (by with_reducible assumption)) | exact ck1 (cj4 (by with_reducible assumption)) | exact ck1 (cj5 (by with_reducible assumption)) | exact ck1 (cj6 (by with_reducible assumption)) | exact ck1 (cj7 (by with_reducible assumption)) | exact ck1 (cj8 (by with_reducible assumption)) | exact ck1 (cj9 (by with_reducible assumption)) | exact ck1 (cj10 (by with_reducible assumption)) | exact ck1 (ck1 (by with_reducible assumption)) | exact ck1 (ck2 (by with_reducible assumption)) | exact ck1 (ck3 (by with_reducible assumption)) | exact ck1 (ck4 (by with_reducible assumption)) | exact ck1 (ck5 (by with_reducible assumption)) | exact ck1 (ck6 (by with_reducible assumption)) | exact ck1 (ck7 (by with_reducible assumption)) | exact ck1 (ck8 (by with_reducible assumption)) | exact ck1 (ck9 (by with_reducible assumption)) | exact ck1 (ck10 (by with_reducible assumption)) | exact ck2 (cj0 (by with_reducible assumption)) | exact ck2 (cj1 (by with_reducible assumption)) | exact ck2 (cj2 (by with_reducible assumption)) | exact ck2 (cj3 (by with_reducible assumption)) | exact ck2 (cj4 (by with_reducible assumption)) | exact ck2 (cj5 (by with_reducible assumption)) | exact ck2 (cj6 (by with_reducible assumption)) | exact ck2 (cj7 (by with_reducible assumption)) | exact ck2 (cj8 (by with_reducible assumption)) | exact ck2 (cj9 (by with_reducible assumption)) | exact ck2 (cj10 (by with_reducible assumption)) | exact ck2 (ck1 (by with_reducible assumption)) | exact ck2 (ck2 (by with_reducible assumption)) | exact ck2 (ck3 (by with_reducible assumption)) | exact ck2 (ck4 (by with_reducible assumption)) | exact ck2 (ck5 (by with_reducible assumption)) | exact ck2 (ck6 (by with_reducible assumption)) | exact ck2 (ck7 (by with_reducible assumption)) | exact ck2 (ck8 (by with_reducible assumption)) | exact ck2 (ck9 (by with_reducible assumption)) | exact ck2 (ck10 (by with_reducible assumption))))
 exact True.intro
example : True := by
 (k_with "lt9" => (first | with_reducible assumption | with_reducible exact lt_s1 | with_reducible exact lt_s2 | with_reducible exact lt_s3 | k_extra "cj" | exact lt_tr (by with_reducible assumption) (by first | with_reducible assumption | k_extra "cj")))
 exact True.intro
example : True := by
 (k_with "k_ne" => ((try dsimp only); first | with_reducible assumption | exact Ne.symm (by with_reducible assumption) | exact Nat.ne_of_gt (by first | with_reducible assumption | exact cj0 (by with_reducible assumption) | exact ck1 (by with_reducible assumption) | exact lt_tr (by with_reducible assumption) (by first | with_reducible assumption | exact cj0 (by with_reducible assumption) | exact ck1 (by with_reducible assumption))) | exact Nat.ne_of_lt (by first | with_reducible assumption | exact cj0 (by with_reducible assumption) | exact ck1 (by with_reducible assumption) | exact lt_tr (by with_reducible assumption) (by first | with_reducible assumption | exact cj0 (by with_reducible assumption) | exact ck1 (by with_reducible assumption))) | exact Nat.ne_of_gt (by k_extra "lt9") | exact Nat.ne_of_lt (by k_extra "lt9") | k_extra "cj" | exact Ne.symm (by k_extra "cj") | k_extra "cjn" | exact Ne.symm (by k_extra "cjn") | (refine neN ?_; omega)))
 exact True.intro
example : True := by
 (k_with "k_memR" => (first | with_reducible exact mem0 | with_reducible exact mem1 | with_reducible exact mem2 | with_reducible exact mem3 | with_reducible exact mem4 | with_reducible exact mem5 | with_reducible exact mem6 | with_reducible exact mem7 | with_reducible exact mem8 | with_reducible exact mem9 | with_reducible exact mem10 | with_reducible exact mem11 | with_reducible exact mem12 | with_reducible exact mem13 | with_reducible exact mem14 | with_reducible exact mem15 | ((with_reducible refine' memS ?_); k_extra "k_memR")))
 exact True.intro
example : True := by
 (k_with "k_memL" => (first | exact List.Mem.head _ | (refine' List.Mem.tail _ ?_; k_extra "k_memL")))
 exact True.intro
example : True := by
 (k_with "k_mem" => ((fail_if_success (fail_if_success (have := @on_mem))); (first | k_extra "k_memR" | k_extra "k_memL")))
 exact True.intro
example : True := by
 (k_with "k_all" => (first | exact al0 | exact al1 (by k_ne) (by k_all)))
 exact True.intro
example : True := by
 (k_with "spliced" => (k_here; k_dflt (first
  | (refine' args_pl ?F ?he ?_ ?hk; (case F => k_asm); (case hk => exact rfl); (case he => exact rfl); k_whole; (try ((with_reducible refine (?_ : wpAny _ _ (call _ (_ ++ _)) _ _ _)); dsimp only [List.cons_append, List.nil_append])))
  | (refine' args_p1 ?F ?he ?_ ?hk; (case F => k_asm); (case hk => exact rfl); (case he => exact rfl); k_whole))))
 exact True.intro
example : True := by
 (k_with "eval Call" => (k_here; k_dflt (first
  | (refine' call_pl ?F ?X ?T ?e ?kf ?he ?hs ?hg ?_; (case F => k_asm); (case X => k_asm); (case T => k_asm); (case hs => exact rfl); (case hg => exact rfl); (case e => k_is); (case kf => k_is); (case he => exact rfl); k_whole)
  | (refine' call_np ?F ?X ?T ?e ?kf ?hs ?hg ?_ ?h1 ?h2; (case F => k_asm); (case X => k_asm); (case T => k_asm); (case hs => exact rfl); (case hg => exact rfl); (case e => k_is); (case kf => k_is); (case h1 => exact rfl); (case h2 => exact rfl); k_whole))))
 exact True.intro
example : True := by
 (k_with "eval BinOp" => (k_here; k_dflt (refine' bin_pl ?F ?he ?_ ?hk; (case F => k_asm); (case hk => exact rfl); (case he => exact rfl); k_whole)))
 exact True.intro
example : True := by
 (k_with "eval Compare" => (k_here; k_dflt (refine' cmp_pl ?F ?he ?_ ?hm ?hk; (case F => k_asm); (case hk => exact rfl); (case hm => exact rfl); (case he => exact rfl); k_whole)))
 exact True.intro
example : True := by
 (k_with "ci" => (first | exact ci_eq | exact ci_ne | exact ci_lt | exact ci_gt | exact ci_le | exact ci_ge | exact ci_seq | exact ci_sne | exact ci_nn | exact ci_nnn | exact ci_rn | exact ci_rnn | exact ci_in | exact ci_inn | exact ci_sn | exact ci_snn))
 exact True.intro
example : True := by
 (k_with "isTrue Compare" => (k_here; k_dflt (first
  | (refine' cmpT_b ?F ?he ?hc ?_ ?hm ?hk; (case F => k_asm); (case hk => exact rfl); (case hm => exact rfl); (case he => exact rfl); (case hc => with_reducible k_extra "ci"); k_whole)
  | (refine' cmpT_pl ?F ?he ?_ ?hm ?hk; (case F => k_asm); (case hk => exact rfl); (case hm => exact rfl); (case he => exact rfl); k_whole))))
 exact True.intro
example : True := by
 (k_with "eval Attribute Name" => (k_here; k_dflt (refine' attr_pl ?F ?he ?_ ?hk; (case F => k_asm); (case hk => exact rfl); (case he => exact rfl); k_whole)))
 exact True.intro
example : True := by
 (k_with "eval Subscript" => (k_here; k_dflt (refine' sub_pl ?F ?he ?_ ?hk; (case F => k_asm); (case hk => exact rfl); (case he => exact rfl); k_whole)))
 exact True.intro
example : True := by
 (k_with "exec Return some" => (k_here; k_dflt (refine' ret_pl ?F ?he ?_ ?hk; (case F => k_asm); (case hk => exact rfl); (case he => exact rfl); k_whole; (try dsimp only))))
 exact True.intro
example : True := by
 (k_with "exec Assign" => (k_here; k_dflt (refine' asg_pl ?F ?he ?_ ?hk ?hs; (case F => k_asm); (case hk => exact rfl); (case hs => exact rfl); (case he => exact rfl); k_whole)))
 exact True.intro
example : True := by
 (k_with "cmptr" => ((with_reducible refine' cmp_tr ?hc ?_; (case hc => k_extra "ci")); k_whole))
 exact True.intro
example : True := by
 (k_with "compareOp Eq int int" => (k_extra "cmptr"))
 exact True.intro
example : True := by
 (k_with "compareOp NotEq int int" => (k_extra "cmptr"))
 exact True.intro
example : True := by
 (k_with "compareOp Lt int int" => (k_extra "cmptr"))
 exact True.intro
example : True := by
 (k_with "compareOp Gt int int" => (k_extra "cmptr"))
 exact True.intro
example : True := by
 (k_with "compareOp LtE int int" => (k_extra "cmptr"))
 exact True.intro
example : True := by
 (k_with "compareOp GtE int int" => (k_extra "cmptr"))
 exact True.intro
example : True := by
 (k_with "compareOp Eq str str" => (k_extra "cmptr"))
 exact True.intro
example : True := by
 (k_with "compareOp NotEq str str" => (k_extra "cmptr"))
 exact True.intro
example : True := by
 (k_with "compareOp Is none none" => (k_extra "cmptr"))
 exact True.intro
example : True := by
 (k_with "compareOp IsNot none none" => (k_extra "cmptr"))
 exact True.intro
example : True := by
 (k_with "compareOp Is ref none" => (k_extra "cmptr"))
 exact True.intro
example : True := by
 (k_with "compareOp IsNot ref none" => (k_extra "cmptr"))
 exact True.intro
example : True := by
 (k_with "compareOp Is int none" => (k_extra "cmptr"))
 exact True.intro
example : True := by
 (k_with "compareOp IsNot int none" => (k_extra "cmptr"))
 exact True.intro
example : True := by
 (k_with "compareOp Is str none" => (k_extra "cmptr"))
 exact True.intro
example : True := by
 (k_with "compareOp IsNot str none" => (k_extra "cmptr"))
 exact True.intro
-- part fd
example : True := by
 w_top off
 exact True.intro
namespace T_fd
theorem on_fd : True := True.intro
end T_fd
section
open T_fd T_mem
example : True := by
 (k_with "execs cons" => ((fail_if_success (fail_if_success (have := @on_fd))); (k_here; (try k_gentoks); (with_reducible refine wpAny_execs_cons ?_); (try dsimp only); k_fold)))
 exact True.intro
end
-- part nw
example : True := by
 w_top off
 exact True.intro
namespace T_nw
theorem on_nw : True := True.intro
end T_nw
section
open T_nw T_mem
noncomputable def nw (n d : Int) : Int :=
  let low := Int.fdiv n d
  let rest := 2 * (n - low * d)
  if rest > d ∨ (rest = d ∧ Int.fmod low 2 = 1) then low + 1 else low
theorem nearest_whole_ok {prog : Program} {w : World} {p : Program} {loose : List Str} {mean : ExcName → Option Value} {mg mb : Str → Option Value} {dp un : Nat} {fs : Option (List Env)} {gd : Option (List Code)} {s : Shared} {Q E : Value → Shared → Prop} {n d : Int} {t t' : Tok}
    (C : Site w p loose mean mg mb s.heap) (hd : dp + 1 < recursionLimit) (h0 : 0 < d) (hd' : d < 2 ^ 128) (hq : n < 2 ^ 63 ∨ d < 2 ^ 63) (hn : 0 ≤ n)
    (ret : Ret s Q fun v _ => ∃ tk, v = .int (nw n d) tk) : wpAny (model prog w) (At dp un fs gd) (call (.ref 60) [.int n t, .int d t']) Q E s := by
  refine quietly ?_ ?_
  focus
    obtain ⟨X, T⟩ := C
    have hm : IntMulOk (n.fdiv d) d := by
      rcases hq with q | q
      · have h1 : 0 ≤ n.fdiv d := Int.fdiv_nonneg hn (Int.le_of_lt h0)
        have h2 : n.fdiv d ≤ n := by rw [Int.fdiv_eq_ediv_of_nonneg _ (Int.le_of_lt h0)]; exact Int.ediv_le_self _ hn
        exact IntMulOk.of_left (intBits_le_64 (by omega) (by omega))
      · exact IntMulOk.of_right (intBits_le_64 (by omega) (by omega))
    k_extra "tb_start"
    k_steps
    all_goals (refine ret_int (s := s) ret (Fr.keep (by assumption)) ?_)
    all_goals (unfold nw; dsimp only; (try split) <;> omega)
  intro hf
  simpa only using (ensure_type_of% (quiet_coe hf (0 : Nat) (by exact rfl)) "" hf)
example : True := by
 (k_with "call ref" => ((fail_if_success (fail_if_success (have := @on_nw))); ((k_here; (with_reducible refine (?_ : wpAny _ _ (call (Value.ref 60) _) _ _ _)); k_dflt (refine' nearest_whole_ok ?kC ?kd ?k0 ?k1 ?k2 ?k3 ?_; (case kC => k_extra "ktr_rel"); (case kd => k_extra "ktr_unf"); (case k0 => first | with_reducible assumption | k_extra "tb_rel" | omega); (case k1 => first | with_reducible assumption | k_extra "tb_rel" | omega); (case k2 => first | k_extra "tb_rel" | omega); (case k3 => first | with_reducible assumption | k_extra "tb_rel" | omega); k_whole; refine Ret.one (by k_asm) (by k_asm) ?_; intro t9 h9 tk9 F9 N9; (try dsimp only); (try k_fold))))))
 exact True.intro
end
-- part ex
example : True := by
 w_top off
 exact True.intro
namespace T_ex
theorem on_ex : True := True.intro
end T_ex
section
open T_nw T_ex T_mem
noncomputable def expDn (n d : Int) : Int := if h : 0 < n ∧ n < d then expDn (n * 10) d - 1 else 0
termination_by (d - n).toNat
decreasing_by omega
noncomputable def expUp (n d : Int) : Int := if h : 0 < d ∧ n ≥ 10 * d then expUp n (d * 10) + 1 else expDn n d
termination_by (n - d).toNat
decreasing_by omega
theorem expUp_go {n d : Int} (h0 : 0 < d) (h : n ≥ 10 * d) : expUp n d = expUp n (d * 10) + 1 := by rw [expUp, dif_pos ⟨h0, h⟩]
theorem expUp_end {n d : Int} (h : ¬ n ≥ 10 * d) : expUp n d = expDn n d := by rw [expUp, dif_neg (fun q => h q.2)]
theorem expDn_go {n d : Int} (h0 : 0 < n) (h : n < d) : expDn n d = expDn (n * 10) d - 1 := by rw [expDn, dif_pos ⟨h0, h⟩]
theorem expDn_end {n d : Int} (h : ¬ n < d) : expDn n d = 0 := by rw [expDn, dif_neg (fun q => h q.2)]
theorem ex_start {n d : Int} (h0 : 0 < d) (hd : d < 2 ^ 60) : 0 < d ∧ d < 2 ^ 60 ∧ (0 : Int) ≤ 0 ∧ expUp n d + 0 = expUp n d := ⟨h0, hd, Int.le_refl _, Int.add_zero _⟩
theorem ex_turn1 {n d e X : Int} (hn : n < 2 ^ 60) (h1 : 0 < d) (h3 : 0 ≤ e) (h4 : expUp n d + e = X) (ht : 10 * d ≤ n) : 0 < d * 10 ∧ d * 10 < 2 ^ 60 ∧ 0 ≤ e + 1 ∧ expUp n (d * 10) + (e + 1) = X := by
  rw [expUp_go h1 ht] at h4
  exact ⟨by omega, by omega, by omega, by omega⟩
theorem ex_mid {n d e X : Int} (hn : n < 2 ^ 60) (h0 : 0 < n) (h4 : expUp n d + e = X) (ht : ¬ 10 * d ≤ n) : 0 < n ∧ n < 2 ^ 64 ∧ expDn n d + e = X :=
  ⟨h0, by omega, by rw [← h4, expUp_end ht]⟩
theorem ex_turn2 {n d e X : Int} (hd : d < 2 ^ 60) (h1 : 0 < n) (h3 : expDn n d + e = X) (ht : n < d) : 0 < n * 10 ∧ n * 10 < 2 ^ 64 ∧ expDn (n * 10) d + (e - 1) = X := by
  rw [expDn_go h1 ht] at h3
  exact ⟨by omega, by omega, by omega⟩
theorem ex_end {n d e X : Int} (h : expDn n d + e = X) (ht : ¬ n < d) : e = X := by
  rw [← h, expDn_end ht]; omega
theorem exponent_ok {prog : Program} {w : World} {p : Program} {loose : List Str} {mean : ExcName → Option Value} {mg mb : Str → Option Value} {dp un : Nat} {fs : Option (List Env)} {gd : Option (List Code)} {s : Shared} {Q E : Value → Shared → Prop} {n d : Int} {a : Addr} {t t' : Tok}
    (C : Site w p loose mean mg mb s.heap) (hd : dp + 1 < recursionLimit) (hx : IsTup s.heap a [Value.int n t, Value.int d t'].toArray) (h0 : 0 < d) (hn : n ≠ 0) (hd' : d < 2 ^ 60) (hn' : -2 ^ 60 < n) (hn'' : n < 2 ^ 60)
    (ret : Ret s Q fun v _ => ∃ tk, v = .int (expUp (zabs n) d) tk) : wpAny (model prog w) (At dp un fs gd) (call (.ref 67) [.ref a]) Q E s := by
  refine quietly ?_ ?_
  focus
    obtain ⟨X, T⟩ := C
    have hz : zabs n < 2 ^ 60 := by unfold zabs; split <;> omega
    have hz0 : 0 < zabs n := by unfold zabs; split <;> omega
    k_extra "tb_start"
    k_with "exec While Compare cons nil" => ((fail_if_success (fail_if_success (have := @on_ex))); (((with_reducible refine (?_ : wpAny _ _ (exec (PySem.Stmt.While (PySem.Expr.Compare _ [PySem.CmpOp.GtE] _ _) _ _ _) _) _ _ _)); k_while (fun _ d' e => 0 < d' ∧ d' < 2 ^ 60 ∧ 0 ≤ e ∧ expUp (zabs n) d' + e = expUp (zabs n) d) (fun _ d' _ => (zabs n - d').toNat) "d" "e")))
    k_with "exec While Compare cons nil" => ((fail_if_success (fail_if_success (have := @on_ex))); (((with_reducible refine (?_ : wpAny _ _ (exec (PySem.Stmt.While (PySem.Expr.Compare _ [PySem.CmpOp.Lt] _ _) _ _ _) _) _ _ _)); k_while_given ["d"] (fun d' _ n' e => 0 < n' ∧ n' < 2 ^ 64 ∧ expDn n' d' + e = expUp (zabs n) d) (fun d' _ n' _ => (d' - n').toNat) "n" "e")))
    k_with "state" => ((fail_if_success (fail_if_success (have := @on_ex))); (first | exact ex_start h0 hd' | exact ex_mid hz hz0 (by assumption) (by omega) | exact ex_turn1 hz (by assumption) (by assumption) (by assumption) (by assumption) | exact ex_turn2 (by assumption) (by assumption) (by assumption) (by assumption)))
    k_steps
    refine ret_int (s := s) ret (Fr.keep (by assumption)) (ex_end (by assumption) (by assumption))
  intro hf
  simpa only using (ensure_type_of% (quiet_coe hf (0 : Nat) (by exact rfl)) "" hf)
example : True := by
 (k_with "call ref" => ((fail_if_success (fail_if_success (have := @on_ex))); ((k_here; (with_reducible refine (?_ : wpAny _ _ (call (Value.ref 67) _) _ _ _)); k_dflt (refine' exponent_ok ?kC ?kd ?kx ?k0 ?k1 ?k2 ?k3 ?k4 ?_; (case kC => k_extra "ktr_rel"); (case kd => k_extra "ktr_unf"); (case kx => k_extra "ktr_units"); (case k0 => first | with_reducible assumption | k_extra "tb_rel" | omega); (case k1 => first | with_reducible assumption | k_extra "tb_rel" | omega); (case k2 => first | with_reducible assumption | k_extra "tb_rel" | omega); (case k3 => first | with_reducible assumption | k_extra "tb_rel" | omega); (case k4 => first | with_reducible assumption | k_extra "tb_rel" | omega); k_whole; refine Ret.one (by k_asm) (by k_asm) ?_; intro t9 h9 tk9 F9 N9; (try dsimp only); (try k_fold))))))
 exact True.intro
end
-- part sc
example : True := by
 w_top off
 exact True.intro
namespace T_sc
theorem on_sc : True := True.intro
end T_sc
section
open T_nw T_sc T_mem
noncomputable def sc (D n d e : Int) : Int := if 0 ≤ D - 1 - e then nw (zabs n * 10 ^ (D - 1 - e).toNat) d else nw (zabs n) (d * 10 ^ (0 - (D - 1 - e)).toNat)
theorem sc_pos {D d e : Int} (h0 : 0 < d) : 0 < d * 10 ^ (0 - (D - 1 - e)).toNat := Int.mul_pos h0 (Int.pow_pos (by decide))
theorem sc_lt {D d e : Int} (h0 : 0 < d) (h : d < 2 ^ 32) (he : e ≤ 12) (hD : 1 ≤ D) : d * 10 ^ (0 - (D - 1 - e)).toNat < 2 ^ 128 := by
  have hk : (0 - (D - 1 - e)).toNat ≤ 12 := by omega
  generalize (0 - (D - 1 - e)).toNat = k at hk
  have hp : ∀ k, k ≤ 12 → (10 : Int) ^ k ≤ 10 ^ 12 := by decide
  have : d * 10 ^ k ≤ d * 10 ^ 12 := Int.mul_le_mul_of_nonneg_left (hp k hk) (by omega)
  omega
theorem sc_nn {n k : Int} (h : 0 ≤ n) : 0 ≤ n * 10 ^ k.toNat := Int.mul_nonneg h (Int.le_of_lt (Int.pow_pos (by decide)))
example : True := by
 (k_with "tb_rel" => ((fail_if_success (fail_if_success (have := @on_sc))); (first | exact sc_pos (by assumption) | exact sc_lt (by assumption) (by assumption) (by assumption) (by assumption) | exact sc_nn (by assumption) | exact Or.inl (by omega) | exact Or.inr (by omega))))
 exact True.intro
theorem scaled_ok {prog : Program} {w : World} {p : Program} {loose : List Str} {mean : ExcName → Option Value} {mg mb : Str → Option Value} {dp un : Nat} {fs : Option (List Env)} {gd : Option (List Code)} {s : Shared} {Q E : Value → Shared → Prop} {D n d e : Int} {a : Addr} {t t' te td : Tok}
    (C : Site w p loose mean mg mb s.heap) (hd : dp + 2 < recursionLimit) (hx : IsTup s.heap a [Value.int n t, Value.int d t'].toArray) (h0 : 0 < d) (hd' : d < 2 ^ 32) (hn' : -2 ^ 32 < n) (hn'' : n < 2 ^ 32) (he : -12 ≤ e) (he' : e ≤ 12) (hD : 1 ≤ D) (hD' : D ≤ 7)
    (ret : Ret s Q fun v _ => ∃ tk, v = .int (sc D n d e) tk) : wpAny (model prog w) (At dp un fs gd) (call (.ref 88) [.ref a, .int e te, .int D td]) Q E s := by
  refine quietly ?_ ?_
  focus
    obtain ⟨X, T⟩ := C
    have hz : zabs n < 2 ^ 32 := by unfold zabs; split <;> omega
    have hz0 : 0 ≤ zabs n := by unfold zabs; split <;> omega
    k_extra "tb_start"
    k_steps
    all_goals (refine ret_int (s := s) ret (Fr.keep (by assumption)) ?_)
    · exact (if_pos (by assumption)).symm
    · exact (if_neg (by assumption)).symm
  intro hf
  simpa only using (ensure_type_of% (quiet_coe hf (0 : Nat) (by exact rfl)) "" hf)
example : True := by
 (k_with "call ref" => ((fail_if_success (fail_if_success (have := @on_sc))); ((k_here; (with_reducible refine (?_ : wpAny _ _ (call (Value.ref 88) _) _ _ _)); k_dflt (refine' scaled_ok ?kC ?kd ?kx ?k0 ?k1 ?k2 ?k3 ?k4 ?k5 ?k6 ?k7 ?_; (case kC => k_extra "ktr_rel"); (case kd => k_extra "ktr_unf"); (case kx => k_extra "ktr_units"); (case k0 => first | with_reducible assumption | k_extra "tb_rel" | omega); (case k1 => first | with_reducible assumption | k_extra "tb_rel" | omega); (case k2 => first | with_reducible assumption | k_extra "tb_rel" | omega); (case k3 => first | with_reducible assumption | k_extra "tb_rel" | omega); (case k4 => first | with_reducible assumption | k_extra "tb_rel" | omega); (case k5 => first | with_reducible assumption | k_extra "tb_rel" | omega); (case k6 => first | with_reducible assumption | omega); (case k7 => first | with_reducible assumption | omega); k_whole; refine Ret.one (by k_asm) (by k_asm) ?_; intro t9 h9 tk9 F9 N9; (try dsimp only); (try k_fold))))))
 exact True.intro
end
-- part sg
example : True := by
 w_top off
 exact True.intro
namespace T_sg
theorem on_sg : True := True.intro
end T_sg
section
open T_nw T_ex T_sc T_sg T_mem
theorem expDn_le {n d : Int} : expDn n d ≤ 0 := by
  induction n using expDn.induct (d := d) with
  | case1 n h ih => rw [expDn_go h.1 h.2]; omega
  | case2 n h => rw [expDn, dif_neg h]; omega
theorem expDn_ge : ∀ (k : Nat) {n d : Int}, 0 < n → d ≤ n * 10 ^ k → -(k : Int) ≤ expDn n d
  | 0, n, d, h0, h => by rw [expDn_end (by simpa using h)]; omega
  | k + 1, n, d, h0, h => by
    by_cases q : n < d
    · rw [expDn_go h0 q]
      have := expDn_ge k (n := n * 10) (d := d) (by omega) (by rw [Int.pow_succ, Int.mul_comm (10 ^ k) 10, ← Int.mul_assoc] at h; exact h)
      omega
    · rw [expDn_end q]; omega
theorem expUp_le : ∀ (k : Nat) {n d : Int}, 0 < d → n < d * 10 ^ (k + 1) → expUp n d ≤ k
  | 0, n, d, h0, h => by rw [expUp_end (by omega)]; exact expDn_le
  | k + 1, n, d, h0, h => by
    by_cases q : n ≥ 10 * d
    · rw [expUp_go h0 q]
      have := expUp_le k (n := n) (d := d * 10) (by omega) (by rw [Int.pow_succ, Int.mul_comm (10 ^ (k + 1)) 10, ← Int.mul_assoc] at h; exact h)
      omega
    · rw [expUp_end q]; have := @expDn_le n d; omega
theorem expUp_ge {k : Nat} {n d : Int} (h0 : 0 < n) (h : d ≤ n * 10 ^ k) : -(k : Int) ≤ expUp n d := by
  induction d using expUp.induct (n := n) with
  | case1 d q ih =>
    rw [expUp_go q.1 q.2]
    have h1 : n ≤ n * 10 ^ k := by
      have : (1 : Int) ≤ 10 ^ k := Int.pow_pos (by decide)
      have := Int.mul_le_mul_of_nonneg_left this (Int.le_of_lt h0)
      omega
    have := ih (by omega)
    omega
  | case2 d q => rw [expUp, dif_neg q]; exact expDn_ge k h0 h
theorem expUp_lo {n d : Int} (h0 : 0 < n) (hd : d < 2 ^ 32) : -12 ≤ expUp n d := by
  have := expUp_ge (k := 12) (n := n) (d := d) h0 (by omega)
  omega
theorem expUp_hi {n d : Int} (h0 : 0 < d) (hn : n < 2 ^ 32) : expUp n d ≤ 11 := by
  have := expUp_le 11 (n := n) (d := d) h0 (by omega)
  omega
theorem nw_lo {n d : Int} (h0 : 0 < d) (hn : 0 ≤ n) : 0 ≤ nw n d := by
  have h1 : 0 ≤ n.fdiv d := Int.fdiv_nonneg hn (Int.le_of_lt h0)
  unfold nw; dsimp only; split <;> omega
theorem nw_hi {n d : Int} (h0 : 0 < d) (hn : 0 ≤ n) : nw n d ≤ n + 1 := by
  have h1 : n.fdiv d ≤ n := by rw [Int.fdiv_eq_ediv_of_nonneg _ (Int.le_of_lt h0)]; exact Int.ediv_le_self _ hn
  unfold nw; dsimp only; split <;> omega
theorem zabs_nn (n : Int) : 0 ≤ zabs n := by unfold zabs; split <;> omega
theorem sc_lo {D n d e : Int} (h0 : 0 < d) : 0 ≤ sc D n d e := by
  unfold sc; split
  · exact nw_lo h0 (Int.mul_nonneg (zabs_nn n) (Int.le_of_lt (Int.pow_pos (by decide))))
  · exact nw_lo (Int.mul_pos h0 (Int.pow_pos (by decide))) (zabs_nn n)
theorem sc_hi {D n d e : Int} (h0 : 0 < d) (hz : zabs n < 2 ^ 32) (he : -12 ≤ e) (hD : D ≤ 7) : sc D n d e < 2 ^ 100 := by
  have hn := zabs_nn n
  unfold sc; split
  · have hk : (D - 1 - e).toNat ≤ 18 := by omega
    generalize (D - 1 - e).toNat = k at hk
    have hp : ∀ k, k ≤ 18 → (10 : Int) ^ k ≤ 10 ^ 18 := by decide
    have := nw_hi (n := zabs n * 10 ^ k) h0 (Int.mul_nonneg hn (Int.le_of_lt (Int.pow_pos (by decide))))
    have := Int.mul_le_mul_of_nonneg_left (hp k hk) hn
    omega
  · have := nw_hi (n := zabs n) (d := d * 10 ^ (0 - (D - 1 - e)).toNat) (Int.mul_pos h0 (Int.pow_pos (by decide))) hn
    omega
theorem sc_log {D n d e : Int} (h0 : 0 < d) (hz : zabs n < 2 ^ 32) (he : -12 ≤ e) (hD : D ≤ 7) : (sc D n d e).natAbs.log2 < 1920 := by
  have h1 := sc_lo (D := D) (n := n) (e := e) h0
  have h2 := sc_hi (D := D) h0 hz he hD
  exact log_mid (by omega)
example : True := by
 (k_with "tb_rel" => ((fail_if_success (fail_if_success (have := @on_sg))); (exact sc_log (by assumption) (by assumption) (by omega) (by assumption))))
 exact True.intro
noncomputable def sgE (D n d : Int) : Int := if 10 ^ D.toNat ≤ sc D n d (expUp (zabs n) d) then expUp (zabs n) d + 1 else expUp (zabs n) d
noncomputable def sgN (D n d : Int) : Int := sc D n d (sgE D n d)
noncomputable def sgX (D n d : Int) : Str := if n = 0 then Txt.mul (Str.ofString "0") D else Str.ofString (toString (sgN D n d))
noncomputable def sgF (D n d : Int) : Int := if n = 0 then 0 else sgE D n d
noncomputable def sgS (n : Int) : Int := if n = 0 then 0 else if n > 0 then 1 else -1
noncomputable abbrev sigObj (D n d : Int) (t1 t2 t3 : Tok) : Obj := { cls := .type "tuple", data := .seq [Value.int (sgS n) t1, .str (sgX D n d) t2, .int (sgF D n d) t3].toArray }
noncomputable def SigFits (D n d : Int) : Prop := 1 ≤ (sgX D n d).length ∧ (sgX D n d).length < 2000 ∧ -12 ≤ sgF D n d ∧ sgF D n d ≤ 12
theorem noughts_fit {D : Int} (hD : 1 ≤ D) (hD' : D ≤ 7) : 1 ≤ (Txt.mul (Str.ofString "0") D).length ∧ (Txt.mul (Str.ofString "0") D).length < 2000 := by
  have h : D = 1 ∨ D = 2 ∨ D = 3 ∨ D = 4 ∨ D = 5 ∨ D = 6 ∨ D = 7 := by omega
  rcases h with rfl | rfl | rfl | rfl | rfl | rfl | rfl <;> exact ⟨by decide +kernel, by decide +kernel⟩
theorem sig_fits {D n d : Int} (h0 : 0 < d) (hd : d < 2 ^ 32) (hz : zabs n < 2 ^ 32) (hD : 1 ≤ D) (hD' : D ≤ 7) : SigFits D n d := by
  unfold SigFits sgX sgF
  by_cases hn : n = 0
  · rw [if_pos hn, if_pos hn]
    exact ⟨(noughts_fit hD hD').1, (noughts_fit hD hD').2, by decide, by decide⟩
  · rw [if_neg hn, if_neg hn]
    have hp : 0 < zabs n := by unfold zabs; split <;> omega
    have he : -12 ≤ sgE D n d ∧ sgE D n d ≤ 12 := by
      have := expUp_lo hp hd
      have := expUp_hi h0 hz
      unfold sgE; split <;> omega
    have := int_text_len_1921 (sc_log (D := D) (n := n) (e := sgE D n d) h0 hz he.1 hD')
    exact ⟨KLn.one_le (sc_lo h0), by unfold sgN; omega, he.1, he.2⟩
noncomputable abbrev SigPost (s : Shared) (D n d : Int) (v : Value) (h' : Heap) : Prop := ∃ r t1 t2 t3, v = .ref r ∧ s.heap.get? r = none ∧ h'.get? r = some (sigObj D n d t1 t2 t3)
theorem ret_sig {s : Shared} {Q : Value → Shared → Prop} {D n d i e : Int} {x : Str} {r L : Addr} {t1 t2 t3 : Tok} {m : Str → Option Value} {rest : List (Addr × Obj)} {h' : Heap} {tk' : Nat} (ret : Ret s Q (SigPost s D n d)) (F : Fr s.heap L h' m)
    (N : News s.heap L h' ((r, { cls := .type "tuple", data := .seq [Value.int i t1, .str x t2, .int e t3].toArray }) :: rest)) (hi : i = sgS n) (hx : x = sgX D n d) (he : e = sgF D n d) :
    Q (.ref r) { s with heap := h', toks := tk' } := by
  subst hi hx he
  exact ret_new (s := s) ret F N fun q1 q2 => ⟨_, _, _, _, rfl, q1, q2⟩
theorem significant_ok {prog : Program} {w : World} {p : Program} {loose : List Str} {mean : ExcName → Option Value} {mg mb : Str → Option Value} {dp un : Nat} {fs : Option (List Env)} {gd : Option (List Code)} {s : Shared} {Q E : Value → Shared → Prop} {D n d : Int} {a : Addr} {t t' td : Tok}
    (C : Site w p loose mean mg mb s.heap) (hd : dp + 3 < recursionLimit) (hx : IsTup s.heap a [Value.int n t, Value.int d t'].toArray) (h0 : 0 < d) (hd' : d < 2 ^ 32) (hn' : -2 ^ 32 < n) (hn'' : n < 2 ^ 32) (hD : 1 ≤ D) (hD' : D ≤ 7)
    (ret : Ret s Q (SigPost s D n d)) : wpAny (model prog w) (At dp un fs gd) (call (.ref 95) [.ref a, .int D td]) Q E s := by
  refine quietly ?_ ?_
  focus
    obtain ⟨X, T⟩ := C
    have hz : zabs n < 2 ^ 32 := by unfold zabs; split <;> omega
    have hzp : n ≠ 0 → 0 < zabs n := by intro _; unfold zabs; split <;> omega
    have hlo : n ≠ 0 → -12 ≤ expUp (zabs n) d := fun h => expUp_lo (hzp h) hd'
    have hhi : n ≠ 0 → expUp (zabs n) d ≤ 11 := fun h => expUp_hi h0 hz
    k_extra "tb_start"
    k_steps
    all_goals (refine ret_sig (s := s) ret (by assumption) (by assumption) (by unfold sgS; (repeat' split) <;> omega) ?_ ?_)
    all_goals first
      | exact (if_pos (by assumption)).symm
      | (unfold sgX sgN sgE; rw [if_neg (by assumption), if_pos (by assumption)])
      | (unfold sgF sgE; rw [if_neg (by assumption), if_pos (by assumption)])
      | (unfold sgX sgN sgE; rw [if_neg (by assumption), if_neg (by assumption)])
      | (unfold sgF sgE; rw [if_neg (by assumption), if_neg (by assumption)])
  intro hf
  simpa only using (ensure_type_of% (quiet_coe hf (0 : Nat) (by exact rfl)) "" hf)
theorem news_cons {h₀ h h' : Heap} {L r : Addr} {o : Obj} {m : Str → Option Value} {news : List (Addr × Obj)} (F : Fr h₀ L h m) (N : News h₀ L h news) (k : Keeps h h') (q1 : h.get? r = none) (q2 : h'.get? r = some o) : News h₀ L h' ((r, o) :: news) := by
  intro p hp
  rcases List.mem_cons.mp hp with rfl | hp
  · refine ⟨q2, fun q => ?_, ?_⟩
    · obtain ⟨oL, _, _, hL, _⟩ := F.ns
      subst q; rw [hL] at q1; cases q1
    · cases q : h₀.get? r with
      | none => rfl
      | some o' => rw [F.keep _ _ q] at q1; cases q1
  · exact news_on N k p hp
theorem Ret.new2 {α β : Type} {c : α → β → Obj} {s : Shared} {Q : Value → Shared → Prop} {h₀ : Heap} {L : Addr} {m : Str → Option Value} {news : List (Addr × Obj)} (F : Fr h₀ L s.heap m) (N : News h₀ L s.heap news) (k : ∀ r u1 u2 h' tk', AllNe r news → News h₀ L h' ((r, c u1 u2) :: news) → Fr h₀ L h' m → Q (.ref r) { s with heap := h', toks := tk' }) : Ret s Q fun v h' => ∃ r u1 u2, v = .ref r ∧ s.heap.get? r = none ∧ h'.get? r = some (c u1 u2) := fun v h' tk' kp e => by
  obtain ⟨r, u1, u2, rfl, n9, s9⟩ := e
  exact k r u1 u2 h' tk' (allNe_of n9 N) (news_cons F N kp n9 s9) (fr_on F kp)
theorem Ret.new3 {α β γ : Type} {c : α → β → γ → Obj} {s : Shared} {Q : Value → Shared → Prop} {h₀ : Heap} {L : Addr} {m : Str → Option Value} {news : List (Addr × Obj)} (F : Fr h₀ L s.heap m) (N : News h₀ L s.heap news) (k : ∀ r u1 u2 u3 h' tk', AllNe r news → News h₀ L h' ((r, c u1 u2 u3) :: news) → Fr h₀ L h' m → Q (.ref r) { s with heap := h', toks := tk' }) : Ret s Q fun v h' => ∃ r u1 u2 u3, v = .ref r ∧ s.heap.get? r = none ∧ h'.get? r = some (c u1 u2 u3) := fun v h' tk' kp e => by
  obtain ⟨r, u1, u2, u3, rfl, n9, s9⟩ := e
  exact k r u1 u2 u3 h' tk' (allNe_of n9 N) (news_cons F N kp n9 s9) (fr_on F kp)
theorem Ret.new4 {α β γ δ : Type} {c : α → β → γ → δ → Obj} {s : Shared} {Q : Value → Shared → Prop} {h₀ : Heap} {L : Addr} {m : Str → Option Value} {news : List (Addr × Obj)} (F : Fr h₀ L s.heap m) (N : News h₀ L s.heap news) (k : ∀ r u1 u2 u3 u4 h' tk', AllNe r news → News h₀ L h' ((r, c u1 u2 u3 u4) :: news) → Fr h₀ L h' m → Q (.ref r) { s with heap := h', toks := tk' }) : Ret s Q fun v h' => ∃ r u1 u2 u3 u4, v = .ref r ∧ s.heap.get? r = none ∧ h'.get? r = some (c u1 u2 u3 u4) := fun v h' tk' kp e => by
  obtain ⟨r, u1, u2, u3, u4, rfl, n9, s9⟩ := e
  exact k r u1 u2 u3 u4 h' tk' (allNe_of n9 N) (news_cons F N kp n9 s9) (fr_on F kp)
example : True := by
 (k_with "call ref" => ((fail_if_success (fail_if_success (have := @on_sg))); ((k_here; (with_reducible refine (?_ : wpAny _ _ (call (Value.ref 95) _) _ _ _)); k_dflt (refine' significant_ok ?kC ?kd ?kx ?k0 ?k1 ?k2 ?k3 ?k4 ?k5 ?_; (case kC => k_extra "ktr_rel"); (case kd => k_extra "ktr_unf"); (case kx => k_extra "ktr_units"); (case k0 => first | with_reducible assumption | k_extra "tb_rel" | omega); (case k1 => first | with_reducible assumption | k_extra "tb_rel" | omega); (case k2 => first | with_reducible assumption | k_extra "tb_rel" | omega); (case k3 => first | with_reducible assumption | k_extra "tb_rel" | omega); (case k4 => first | with_reducible assumption | omega); (case k5 => first | with_reducible assumption | omega); k_whole; refine Ret.new3 (by k_asm) (by k_asm) ?_; intro r9 u9 u9' u9'' h9 tk9 o9 N9 F9; (try simp only [List.nil_append, List.cons_append, List.append_nil, AllNe, and_true] at o9); (try dsimp only); (try k_fold))))))
 exact True.intro
end
-- part wt
example : True := by
 w_top off
 exact True.intro
namespace T_wt
theorem on_wt : True := True.intro
end T_wt
section
open T_wt T_mem
noncomputable def tailTest (x : Str) (j : Int) : Bool := if 1 < j then (if (Txt.item x (j - 1) == Str.ofString "0") = true then true else false) else false
noncomputable def wtE (x : Str) : Nat → Nat
  | 0 => 0
  | k + 1 => if tailTest x ((k + 1 : Nat) : Int) = true then wtE x k else k + 1
theorem wtE_is {x : Str} {k : Int} (h1 : k ≤ (x.length : Int)) (h2 : min (x.length : Int) 1 ≤ k) (h3 : ∀ j : Int, k < j → j ≤ (x.length : Int) → tailTest x j = true) (h4 : tailTest x k = false) :
    ∀ m : Nat, k ≤ (m : Int) → (m : Int) ≤ (x.length : Int) → ((wtE x m : Nat) : Int) = k
  | 0, h, h' => by show (0 : Int) = k; omega
  | m + 1, h, h' => by
    unfold wtE
    by_cases q : k = ((m + 1 : Nat) : Int)
    · rw [← q, h4, if_neg (by decide)]; exact q.symm
    · rw [h3 _ (by omega) h', if_pos rfl]
      exact wtE_is h1 h2 h3 h4 m (by omega) (by omega)
noncomputable def wt (x : Str) : Str := Txt.slice x none (some (wtE x x.length : Nat))
theorem without_tail_ok {prog : Program} {w : World} {p : Program} {loose : List Str} {mean : ExcName → Option Value} {mg mb : Str → Option Value} {dp un : Nat} {fs : Option (List Env)} {gd : Option (List Code)} {s : Shared} {Q E : Value → Shared → Prop} {x : Str} {t : Tok}
    (C : Site w p loose mean mg mb s.heap) (hd : dp + 1 < recursionLimit) (hx : 1 ≤ x.length) (hx' : x.length < 2000)
    (ret : Ret s Q fun v _ => ∃ tk, v = .str (wt x) tk ∧ (wt x).length ≤ x.length) : wpAny (model prog w) (At dp un fs gd) (call (.ref 102) [.str x t]) Q E s := by
  refine quietly ?_ ?_
  focus
    obtain ⟨X, T⟩ := C
    k_extra "tb_start"
    k_steps
    refine ret_str (s := s) (fun v h' tk' k e => ret v h' tk' k (by obtain ⟨tk, e⟩ := e; exact ⟨tk, e, Txt.slice_le _ _ _⟩)) (Fr.keep (by assumption)) ?_
    unfold wt
    rw [wtE_is (by assumption) (by assumption) (by assumption) (by assumption) x.length (by assumption) (Int.le_refl _)]
  intro hf
  simpa only using (ensure_type_of% (quiet_coe hf (0 : Nat) (by exact rfl)) "" hf)
example : True := by
 (k_with "call ref" => ((fail_if_success (fail_if_success (have := @on_wt))); ((k_here; (with_reducible refine (?_ : wpAny _ _ (call (Value.ref 102) _) _ _ _)); k_dflt (refine' without_tail_ok ?kC ?kd ?k0 ?k1 ?_; (case kC => k_extra "ktr_rel"); (case kd => k_extra "ktr_unf"); (case k0 => first | with_reducible assumption | k_extra "tb_rel" | omega); (case k1 => first | with_reducible assumption | k_extra "tb_rel" | omega); k_whole; intro v9 h9 tk9 keep9 e9; obtain ⟨t9, q9, l9⟩ := e9; subst q9; have F9 := fr_on (by k_asm) keep9; have N9 := news_on (by k_asm) keep9; (try simp only [List.nil_append, List.cons_append, List.append_nil] at N9); clear keep9; (try dsimp only); (try k_fold))))))
 exact True.intro
end
-- part me
example : True := by
 w_top off
 exact True.intro
namespace T_me
theorem on_me : True := True.intro
end T_me
section
open T_nw T_ex T_sc T_sg T_wt T_me T_mem
noncomputable def mC (n d : Int) : Int := ((wt (sgX 7 n d)).length : Int)
noncomputable def mL (n d : Int) : Int := if n < 0 then (if 0 > sgF 7 n d then 0 else sgF 7 n d) + 1 + 1 else (if 0 > sgF 7 n d then 0 else sgF 7 n d) + 1
noncomputable def mP (n d : Int) : Int := if 0 > mC n d - 1 - sgF 7 n d then 0 else mC n d - 1 - sgF 7 n d
noncomputable abbrev meaObj (n d : Int) (t1 t2 t3 t4 : Tok) : Obj := { cls := .type "tuple", data := .seq [Value.int (mC n d) t1, .int (mL n d) t2, .int (mP n d) t3, .int (sgF 7 n d) t4].toArray }
noncomputable abbrev MeaPost (s : Shared) (n d : Int) (v : Value) (h' : Heap) : Prop := ∃ r t1 t2 t3 t4, v = .ref r ∧ s.heap.get? r = none ∧ h'.get? r = some (meaObj n d t1 t2 t3 t4)
theorem ret_mea {s : Shared} {Q : Value → Shared → Prop} {n d b : Int} {r L : Addr} {t1 t2 t3 t4 : Tok} {m : Str → Option Value} {rest : List (Addr × Obj)} {h' : Heap} {tk' : Nat} (ret : Ret s Q (MeaPost s n d)) (F : Fr s.heap L h' m)
    (N : News s.heap L h' ((r, { cls := .type "tuple", data := .seq [Value.int (mC n d) t1, .int b t2, .int (mP n d) t3, .int (sgF 7 n d) t4].toArray }) :: rest)) (hb : b = mL n d) :
    Q (.ref r) { s with heap := h', toks := tk' } := by
  subst hb
  exact ret_new (s := s) ret F N fun q1 q2 => ⟨_, _, _, _, _, rfl, q1, q2⟩
theorem measures_ok {prog : Program} {w : World} {p : Program} {loose : List Str} {mean : ExcName → Option Value} {mg mb : Str → Option Value} {dp un : Nat} {fs : Option (List Env)} {gd : Option (List Code)} {s : Shared} {Q E : Value → Shared → Prop} {n d : Int} {a : Addr} {t t' td : Tok}
    (C : Site w p loose mean mg mb s.heap) (hd : dp + 4 < recursionLimit) (hx : IsTup s.heap a [Value.int n t, Value.int d t'].toArray) (h0 : 0 < d) (hd' : d < 2 ^ 32) (hn' : -2 ^ 32 < n) (hn'' : n < 2 ^ 32)
    (ret : Ret s Q (MeaPost s n d)) : wpAny (model prog w) (At dp un fs gd) (call (.ref 123) [.ref a, .int 7 td]) Q E s := by
  refine quietly ?_ ?_
  focus
    obtain ⟨X, T⟩ := C
    obtain ⟨f1, f2, f3, f4⟩ := sig_fits h0 hd' (show zabs n < 2 ^ 32 by unfold zabs; split <;> omega) (by decide : (1 : Int) ≤ 7) (by decide)
    k_extra "tb_start"
    k_steps
    · exact ret_mea (s := s) ret (by assumption) (by assumption) (by unfold mL; exact (if_pos (by assumption)).symm)
    · exact ret_mea (s := s) ret (by assumption) (by assumption) (by unfold mL; exact (if_neg (by assumption)).symm)
  intro hf
  simpa only using (ensure_type_of% (quiet_coe hf (0 : Nat) (by exact rfl)) "" hf)
example : True := by
 (k_with "call ref" => ((fail_if_success (fail_if_success (have := @on_me))); ((k_here; (with_reducible refine (?_ : wpAny _ _ (call (Value.ref 123) _) _ _ _)); k_dflt (refine' measures_ok ?kC ?kd ?kx ?k0 ?k1 ?k2 ?k3 ?_; (case kC => k_extra "ktr_rel"); (case kd => k_extra "ktr_unf"); (case kx => k_extra "ktr_units"); (case k0 => first | with_reducible assumption | k_extra "tb_rel" | omega); (case k1 => first | with_reducible assumption | k_extra "tb_rel" | omega); (case k2 => first | with_reducible assumption | k_extra "tb_rel" | omega); (case k3 => first | with_reducible assumption | k_extra "tb_rel" | omega); k_whole; refine Ret.new4 (by k_asm) (by k_asm) ?_; intro r9 u9 u9' u9'' u9''' h9 tk9 o9 N9 F9; (try simp only [List.nil_append, List.cons_append, List.append_nil, AllNe, and_true] at o9); (try dsimp only); (try k_fold))))))
 exact True.intro
end
-- part lp
example : True := by
 w_top off
 exact True.intro
namespace T_lp
theorem on_lp : True := True.intro
end T_lp
section
open T_lp T_mem
noncomputable def FvEnd (h₀ : Heap) (L : Addr) (J : (Str → Option Value) → List (Addr × Obj) → Prop) (io : Addr × Obj) (s₁ s₂ : Shared) : Prop :=
  ∃ h' tk m' news' nx, s₂ = { s₁ with heap := h', toks := tk } ∧ Fr h₀ L h' m' ∧ News h₀ L h' news' ∧ (∀ p ∈ nx, p ∈ news') ∧ io ∈ news' ∧ (∀ p ∈ nx, p.1 ≠ io.1) ∧ J m' nx
noncomputable def FvPost (h₀ : Heap) (L : Addr) (J : (Str → Option Value) → List (Addr × Obj) → Prop) (io : Addr × Obj) (s₁ : Shared) (Q : Flow → Shared → Prop) (f : Flow) (s₂ : Shared) : Prop :=
  match f with
  | .ret v => Q (.ret v) s₂
  | .brk => Q .next s₂
  | _ => FvEnd h₀ L J io s₁ s₂
theorem fv_next {h₀ h' : Heap} {L : Addr} {J : (Str → Option Value) → List (Addr × Obj) → Prop} {io : Addr × Obj} {s₁ : Shared} {Q : Flow → Shared → Prop} {tk : Nat} {m' : Str → Option Value} {news' : List (Addr × Obj)} (nx : List (Addr × Obj))
    (F : Fr h₀ L h' m') (N : News h₀ L h' news') (hn : ∀ p ∈ nx, p ∈ news') (ho : io ∈ news') (ha : ∀ p ∈ nx, p.1 ≠ io.1) (hj : J m' nx) : FvPost h₀ L J io s₁ Q .next { s₁ with heap := h', toks := tk } := ⟨h', tk, m', news', nx, rfl, F, N, hn, ho, ha, hj⟩
theorem no_entry {P : Addr × Obj → Prop} : ∀ p ∈ ([] : List (Addr × Obj)), P p := fun _ h => nomatch h
section
variable {prog : Program} {w : World} {A : Around} {E : Value → Shared → Prop} {s : Shared} {env : Env} {h₀ : Heap} {x : Str} {body : List Stmt} {Q : Flow → Shared → Prop}
theorem fv_iter {l : Addr} {vs : List Value} {m₀ : Str → Option Value} {news : List (Addr × Obj)} (J : Nat → (Str → Option Value) → List (Addr × Obj) → Prop)
    (hh : A.handled = none) (hl : h₀.IsList l vs.toArray) (F : Fr h₀ env.locals s.heap m₀) (N : News h₀ env.locals s.heap news) (hj : J 0 m₀ news)
    (turn : ∀ i v m₁ nx h tk I oI, vs[i]? = some v → J i m₁ nx → (∀ p ∈ nx, p.1 ≠ I) → Fr h₀ env.locals h (fun y => if y = x then some v else m₁ y) → News h₀ env.locals h (nx ++ [(I, oI)]) →
      wpAny (model prog w) A (execs body env) (FvPost h₀ env.locals (J (i + 1)) (I, oI) { s with heap := h, toks := tk } Q) E { s with heap := h, toks := tk })
    (done : ∀ m₁ nx h tk, J vs.length m₁ nx → Fr h₀ env.locals h m₁ → News h₀ env.locals h nx → Q .next { s with heap := h, toks := tk }) :
    wpAny (model prog w) A (pyIter (.ref l)) (fun it s₂ => LoopAtV prog w A h₀ env x body Q E it s₂) E s := by
  obtain ⟨ol, hol, hol'⟩ := id hl
  have hnow : s.heap.IsList l vs.toArray := ⟨ol, F.keep l ol hol, hol'⟩
  have hlow : l < env.locals := Nat.lt_of_lt_of_le (Heap.lt_size hol) F.above
  have hL : env.locals < s.heap.objs.size := F.ns.lt
  have hne : l ≠ s.heap.objs.size := Nat.ne_of_lt (Nat.lt_trans hlow hL)
  have W := Walks.list (prog := prog) (w := w) hh s.heap.objs.size l hne vs.toArray
  rw [List.size_toArray] at W
  refine wpAny_pyIter_list hnow ⟨_, _, _, vs.length, _, _, m₀, news, J, rfl, W, ?_, ?_, ?_, ⟨⟨_, Heap.get?_push_size _ rfl, rfl, rfl⟩, hnow.at fun o e => Heap.get?_push_of_some _ e⟩, F.push _, fun p hp => ⟨Heap.get?_push_of_some _ (N p hp).1, (N p hp).2⟩, hj, ?_, ?_⟩
  · intro q
    simp only [List.mem_cons, List.not_mem_nil, or_false] at q
    rcases q with q | q
    · rw [q] at hL; exact Nat.lt_irrefl _ hL
    · rw [q] at hlow; exact Nat.lt_irrefl _ hlow
  · intro b hb
    rw [List.mem_singleton.mp hb]
    exact next_is_new F
  · intro p hp q
    have h1 := Heap.lt_size (N p hp).1
    rw [List.mem_singleton.mp q] at h1
    exact Nat.lt_irrefl _ h1
  · rintro i v m₁ nx s₁ own ⟨h, tk, rfl⟩ _ hP hJ hoff hown hget hall hst F₁ N₁
    obtain ⟨⟨oI, hoI, _⟩, _⟩ := id hst
    have hI : (s.heap.objs.size, oI) ∈ own := hall _ (.head _) (next_is_new F) oI hoI
    have hone : ∀ p ∈ own, p = (s.heap.objs.size, oI) := by
      intro p hp
      have h0 : h₀.get? p.1 = none := (N₁ p (List.mem_append_left _ hp)).2.2
      have h2 := hown p hp
      simp only [List.mem_cons, List.not_mem_nil, or_false] at h2
      rcases h2 with h2 | h2
      · have h3 := hget p hp
        rw [h2] at h3
        exact Prod.ext h2 (Option.some.inj (h3.symm.trans hoI))
      · rw [h2, hol] at h0; cases h0
    have hsep : ∀ p ∈ nx, p.1 ≠ s.heap.objs.size := fun p hp q => hoff p hp (List.mem_singleton.mpr q)
    have N₂ : News h₀ env.locals h (nx ++ [(s.heap.objs.size, oI)]) := by
      intro p hp
      rcases List.mem_append.mp hp with hp | hp
      · exact N₁ p (List.mem_append_right _ hp)
      · rw [List.mem_singleton.mp hp]; exact N₁ _ (List.mem_append_left _ hI)
    refine wpAny_mono (turn i v m₁ nx h tk _ oI (by simpa using hP) hJ hsep F₁ N₂) (fun f s₂ p => ?_) fun _ _ e => e
    have fin : FvEnd h₀ env.locals (J (i + 1)) (s.heap.objs.size, oI) { s with heap := h, toks := tk } s₂ → LoopStepU h₀ env.locals [s.heap.objs.size] own (J (i + 1)) { s with heap := h, toks := tk } .next s₂ := by
      rintro ⟨h', tk', m', news', nx', e, F', N', hn, ho, ha, hm⟩
      refine ⟨rfl, h', tk', m', nx', e, F', fun p hp => ?_, fun p hp q => ha p hp (List.mem_singleton.mp q), hm⟩
      rcases List.mem_append.mp hp with hp | hp
      · rw [hone p hp]; exact N' _ ho
      · exact N' _ (hn p hp)
    cases f with
    | ret v => exact .ret p
    | brk => exact .brk p
    | next => exact .next (fin p)
    | cont => exact .cont (fin p)
  · intro h' tk m' news' F' N' _ hJ
    exact done m' news' h' tk hJ F' N'
end
section
variable {prog : Program} {w : World} {A : Around} {s : Shared} {h₀ : Heap} {L : Addr} {m : Str → Option Value} {env : Env} {elt : Expr} {x : Str} {scope : Scope} {cl : List (Str × Addr)} {S : List (Addr × Obj) → Prop} {P : Nat → Value → Prop} {Fin : List Value → List (Addr × Obj) → Prop}
theorem comp_ind {news : List (Addr × Obj)} (n : Nat) (R : Nat → List Value → Prop) (h0 : R 0 []) (hS : S news)
    (turn : ∀ i ys v I oI C oC D m₂ h tk (E' : Value → Shared → Prop), i < n → R i ys → P i v → LCg.NsObj oC m₂ → m₂ x = some v → Fr h₀ L h m → News h₀ L h ((I, oI) :: (C, oC) :: (D, LCg.lst ys) :: news) → LCg.Off3 I C D news → ((@Ne Nat I C) ∧ (@Ne Nat I D) ∧ (@Ne Nat C D)) →
      wpAny (model prog w) A (eval elt (compEnvC scope cl C env)) (fun y s₂ => ∃ h' tk', s₂ = { s with heap := h', toks := tk' } ∧ Fr h₀ L h' m ∧ News h₀ L h' ((I, oI) :: (C, oC) :: (D, LCg.lst ys) :: news) ∧ R (i + 1) (ys ++ [y])) E' { s with heap := h, toks := tk })
    (fin : ∀ ys, R n ys → Fin ys news) : LCg.CompRest prog w A h₀ L m env elt x scope cl s S P Fin n 0 [] news := by
  have all : ∀ k i ys, i + k = n → R i ys → LCg.CompRest prog w A h₀ L m env elt x scope cl s S P Fin k i ys news := by
    intro k
    induction k with
    | zero => intro i ys hi hR; rw [Nat.add_zero] at hi; subst hi; exact fin ys hR
    | succ k ih =>
      intro i ys hi hR
      refine LCg.CompRest.succ fun v I oI C oC D m₂ h tk E' hv hC hx F N off ne => ?_
      refine wpAny_mono (turn i ys v I oI C oC D m₂ h tk E' (by omega) hR hv hC hx F N off ne) (fun y s₂ q => ?_) fun _ _ e => e
      obtain ⟨h', tk', e, F', N', r⟩ := q
      exact ⟨h', tk', news, e, F', N', off, hS, ih (i + 1) (ys ++ [y]) (by omega) r⟩
  exact all n 0 [] (Nat.zero_add n) h0
end
theorem strsAre_snoc {vs : List Value} {ys : List Str} {y : Str} {t : Tok} (h : StrsAre vs ys) : StrsAre (vs ++ [.str y t]) (ys ++ [y]) := by
  induction h with
  | nil => exact .cons _ _ .nil
  | cons y t _ ih => exact .cons _ _ ih
theorem take_snoc {α : Type} {l : List α} {i : Nat} {y : α} (h : l[i]? = some y) : l.take (i + 1) = l.take i ++ [y] := by rw [List.take_add_one, h]; rfl
end
-- part cf
example : True := by
 w_top off
 exact True.intro
namespace T_cf
theorem on_cf : True := True.intro
end T_cf
section
open T_fd T_nw T_ex T_sc T_sg T_wt T_me T_lp T_cf T_mem
inductive TupsAt (h : Heap) : List Value → List (Int × Int) → Prop
  | nil : TupsAt h [] []
  | cons {a : Addr} {n d : Int} {t t' : Tok} {vs : List Value} {ds : List (Int × Int)} : IsTup h a [Value.int n t, Value.int d t'].toArray → TupsAt h vs ds → TupsAt h (.ref a :: vs) ((n, d) :: ds)
theorem TupsAt.keeps {h h' : Heap} (k : Keeps h h') : ∀ {vs : List Value} {ds : List (Int × Int)}, TupsAt h vs ds → TupsAt h' vs ds
  | _, _, .nil => .nil
  | _, _, .cons t r => .cons (IsTup.keeps t k) (r.keeps k)
theorem TupsAt.length {h : Heap} : ∀ {vs : List Value} {ds : List (Int × Int)}, TupsAt h vs ds → vs.length = ds.length
  | _, _, .nil => rfl
  | _, _, .cons _ r => congrArg (· + 1) r.length
theorem TupsAt.get {h : Heap} : ∀ {vs : List Value} {ds : List (Int × Int)}, TupsAt h vs ds → ∀ {i : Nat} {v : Value}, vs[i]? = some v → ∃ a n d t t', ds[i]? = some (n, d) ∧ v = .ref a ∧ IsTup h a [Value.int n t, Value.int d t'].toArray
  | _, _, .nil, i, v, e => by simp at e
  | _, _, .cons t _, 0, v, e => by cases e; exact ⟨_, _, _, _, _, rfl, rfl, t⟩
  | _, _, .cons _ r, i + 1, v, e => by
    obtain ⟨a, n, d, t, t', h1, h2, h3⟩ := r.get (i := i) (v := v) (by simpa using e)
    exact ⟨a, n, d, t, t', by simpa using h1, h2, h3⟩
noncomputable def FracOk (x : Int × Int) : Prop := 0 < x.2 ∧ x.2 < 2 ^ 32 ∧ -2 ^ 32 < x.1 ∧ x.1 < 2 ^ 32
noncomputable def zmax (a b : Int) : Int := if b > a then b else a
noncomputable def cfStep (s : Int × Int × Int × Int) (x : Int × Int) : Int × Int × Int × Int :=
  (zmax s.1 (mC x.1 x.2), zmax s.2.1 (mL x.1 x.2), zmax s.2.2.1 (mP x.1 x.2), if x.1 < 0 then 1 else s.2.2.2)
noncomputable def cf4 (xs : List (Int × Int)) : Int × Int × Int × Int := xs.foldl cfStep (1, 1, 0, 0)
theorem cf4_next {xs : List (Int × Int)} {i : Nat} {x : Int × Int} (h : xs[i]? = some x) : cf4 (xs.take (i + 1)) = cfStep (cf4 (xs.take i)) x := by
  unfold cf4; rw [List.take_add_one, h]; simp
theorem kst_same {m : Str → Option Value} {ps : List (Str × Value)} (h : ∀ p ∈ ps, m p.1 = some p.2) : kstB m ps = m := by
  funext z; exact kstB_eq h fun _ => rfl
noncomputable def HasI (m : Str → Option Value) (x : Str) (i : Int) : Prop := ∃ t, m x = some (.int i t)
theorem hasI_of {m : Str → Option Value} {x : Str} {i j : Int} {t : Tok} (h : m x = some (.int i t)) (e : i = j) : HasI m x j := e ▸ ⟨t, h⟩
noncomputable def CfInv (l : Addr) (td : Tok) (st : Int × Int × Int × Int) (m : Str → Option Value) (nx : List (Addr × Obj)) : Prop :=
  nx = [] ∧ HasI m "count" st.1 ∧ HasI m "left" st.2.1 ∧ HasI m "places" st.2.2.1 ∧ HasI m "wide" 0 ∧ HasI m "minus" st.2.2.2 ∧ m "xs" = some (.ref l) ∧ m "digits" = some (.int 7 td)
noncomputable def formS : Bool → Str
  | true => Str.ofString "fixed"
  | false => Str.ofString "scientific"
noncomputable abbrev formObj (f : Bool × Int) (t1 t2 : Tok) : Obj := { cls := .type "tuple", data := .seq [Value.str (formS f.1) t1, .int f.2 t2].toArray }
noncomputable def cfOf (st : Int × Int × Int × Int) : Bool × Int :=
  if st.2.1 + (if 0 < st.2.2.1 then st.2.2.1 + 1 else 0) ≤ st.2.2.2 + (if 1 < st.1 then st.1 + 1 else 1) + 4 + 0 then (true, st.2.2.1) else (false, st.1)
noncomputable abbrev FormPost (s : Shared) (f : Bool × Int) (v : Value) (h' : Heap) : Prop := ∃ r t1 t2, v = .ref r ∧ s.heap.get? r = none ∧ h'.get? r = some (formObj f t1 t2)
theorem ret_form {s : Shared} {Q : Value → Shared → Prop} (f : Bool × Int) {g : Bool × Int} {r L : Addr} {t1 t2 : Tok} {m : Str → Option Value} {rest : List (Addr × Obj)} {h' : Heap} {tk' : Nat} (ret : Ret s Q (FormPost s g)) (F : Fr s.heap L h' m)
    (N : News s.heap L h' ((r, formObj f t1 t2) :: rest)) (e : f = g) : Q (.ref r) { s with heap := h', toks := tk' } := by
  subst e
  exact ret_new (s := s) ret F N fun q1 q2 => ⟨_, _, _, rfl, q1, q2⟩
theorem chosen_form_ok {prog : Program} {w : World} {p : Program} {loose : List Str} {mean : ExcName → Option Value} {mg mb : Str → Option Value} {dp un : Nat} {fs : Option (List Env)} {gd : Option (List Code)} {s : Shared} {Q E : Value → Shared → Prop} {l : Addr} {vs : List Value} {xs : List (Int × Int)} {td : Tok}
    (C : Site w p loose mean mg mb s.heap) (hd : dp + 5 < recursionLimit) (hl : s.heap.IsList l vs.toArray) (hx : TupsAt s.heap vs xs) (hz : ∀ x ∈ xs, FracOk x)
    (ret : Ret s Q (FormPost s (cfOf (cf4 xs)))) : wpAny (model prog w) (At dp un fs gd) (call (.ref 130) [.ref l, .int 7 td]) Q E s := by
  refine quietly ?_ ?_
  focus
    obtain ⟨X, T⟩ := C
    k_extra "tb_start"
    k_steps
    (rename Fr _ _ _ _ => lF'); (with_unfolding_all refine' For_invVF lF' ?k1 ?k2 ?_; (case k1 => exact rfl); (case k2 => exact rfl); k_whole)
    k_steps
    (with_unfolding_all refine' fv_iter (fun i m nx => CfInv l td (cf4 (xs.take i)) m nx) ?k1 hl ?k2 ?k3 ?_ ?_ ?_; (case k1 => exact rfl); (case k2 => k_asm); (case k3 => k_asm))
    · exact ⟨rfl, ⟨_, by with_unfolding_all rfl⟩, ⟨_, by with_unfolding_all rfl⟩, ⟨_, by with_unfolding_all rfl⟩, ⟨_, by with_unfolding_all rfl⟩, ⟨_, by with_unfolding_all rfl⟩, by with_unfolding_all rfl, by with_unfolding_all rfl⟩
    · rintro i v m₁ nx h tk I oI hv ⟨rfl, ⟨t1, m1⟩, ⟨t2, m2⟩, ⟨t3, m3⟩, ⟨t4, m4⟩, ⟨t5, m5⟩, m6, m7⟩ hI F₁ N₁
      obtain ⟨a, n, d, t, t', hi, rfl, hT⟩ := hx.get hv
      obtain ⟨z1, z2, z3, z4⟩ := hz _ (List.mem_of_getElem? hi)
      dsimp only at z1 z2 z3 z4
      obtain ⟨f1, f2, f3, f4⟩ := sig_fits z1 z2 (show zabs n < 2 ^ 32 by unfold zabs; split <;> omega) (by decide : (1 : Int) ≤ 7) (by decide)
      have f5 : zabs (sgF 7 n d) ≤ 12 := by unfold zabs; split <;> omega
      (first | replace F₁ := kst7 (m := m₁) ⟨m1, m2, m3, m4, m5, m6, m7⟩ F₁ | replace F₁ := kstu7 (m := m₁) ⟨m1, m2, m3, m4, m5, m6, m7⟩ F₁)
      clear m1 m2 m3 m4 m5 m6 m7
      rw [cf4_next hi]
      generalize cf4 (xs.take i) = st at *
      obtain ⟨c1, c2, c3, c4⟩ := st
      simp only [List.nil_append] at N₁
      dsimp only at F₁
      k_steps
      · refine fv_next [] (by assumption) (by assumption) no_entry (by k_mem) no_entry ⟨rfl, ⟨_, by with_unfolding_all rfl⟩, ⟨_, by with_unfolding_all rfl⟩, ⟨_, by with_unfolding_all rfl⟩, ⟨_, by with_unfolding_all rfl⟩, hasI_of (by with_unfolding_all rfl) (if_pos (by assumption)).symm, by with_unfolding_all rfl, by with_unfolding_all rfl⟩
      · refine fv_next [] (by assumption) (by assumption) no_entry (by k_mem) no_entry ⟨rfl, ⟨_, by with_unfolding_all rfl⟩, ⟨_, by with_unfolding_all rfl⟩, ⟨_, by with_unfolding_all rfl⟩, ⟨_, by with_unfolding_all rfl⟩, hasI_of (by with_unfolding_all rfl) (if_neg (by assumption)).symm, by with_unfolding_all rfl, by with_unfolding_all rfl⟩
    · rintro m₁ nx h tk ⟨rfl, ⟨t1, m1⟩, ⟨t2, m2⟩, ⟨t3, m3⟩, ⟨t4, m4⟩, ⟨t5, m5⟩, m6, m7⟩ F₁ N₁
      rw [hx.length, List.take_length] at m1 m2 m3 m5
      (first | replace F₁ := kst5 (m := m₁) ⟨m1, m2, m3, m4, m5⟩ F₁ | replace F₁ := kstu5 (m := m₁) ⟨m1, m2, m3, m4, m5⟩ F₁)
      clear m1 m2 m3 m4 m5 m6 m7 lF'
      generalize cf4 xs = st at *
      obtain ⟨c1, c2, c3, c4⟩ := st
      dsimp only at F₁
      k_steps
      all_goals first
        | exact ret_form (s := s) (true, c3) ret (by assumption) (by assumption) (if_pos (by dsimp only; (repeat' split) <;> omega)).symm
        | exact ret_form (s := s) (false, c1) ret (by assumption) (by assumption) (if_neg (by dsimp only; (repeat' split) <;> omega)).symm
  intro hf
  simpa only using (ensure_type_of% (quiet_coe hf (0 : Nat) (by exact rfl)) "" hf)
example : True := by
 (k_with "call ref" => ((fail_if_success (fail_if_success (have := @on_cf))); ((k_here; (with_reducible refine (?_ : wpAny _ _ (call (Value.ref 130) _) _ _ _)); k_dflt (refine' chosen_form_ok ?kC ?kd ?kx ?k0 ?k1 ?_; (case kC => k_extra "ktr_rel"); (case kd => k_extra "ktr_unf"); (case kx => k_extra "ktr_units"); (case k0 => k_extra "tb_rel"); (case k1 => k_extra "tb_rel"); k_whole; refine Ret.new2 (by k_asm) (by k_asm) ?_; intro r9 u9 u9' h9 tk9 o9 N9 F9; (try simp only [List.nil_append, List.cons_append, List.append_nil, AllNe, and_true] at o9); (try dsimp only); (try k_fold))))))
 exact True.intro
end
-- part wh
example : True := by
 w_top off
 exact True.intro
namespace T_wh
theorem on_wh : True := True.intro
end T_wh
section
open T_wh T_mem
theorem join_one (x : Str) : Txt.join (Str.ofString "") [x] = x := by
  unfold Txt.join; rw [StrLaws.glued_eq_join]; rfl
theorem whole_text_ok {prog : Program} {w : World} {p : Program} {loose : List Str} {mean : ExcName → Option Value} {mg mb : Str → Option Value} {dp un : Nat} {fs : Option (List Env)} {gd : Option (List Code)} {s : Shared} {Q E : Value → Shared → Prop} {n : Int} {t : Tok}
    (C : Site w p loose mean mg mb s.heap) (hd : dp + 1 < recursionLimit) (h0 : 0 ≤ n) (h1 : n < 10 ^ 18)
    (ret : Ret s Q fun v _ => ∃ tk, v = .str (Str.ofString (toString n)) tk) : wpAny (model prog w) (At dp un fs gd) (call (.ref 74) [.int n t]) Q E s := by
  refine quietly ?_ ?_
  focus
    obtain ⟨X, T⟩ := C
    have hz : zabs n = n := by unfold zabs; split <;> omega
    k_extra "tb_start"
    k_with "exec While Compare cons nil" => ((fail_if_success (fail_if_success (have := @on_wh))); (k_while (fun _ r => r = n) (fun _ _ => 0) "rest"))
    k_steps
    (rename _ = n => hn9); (try rw [hn9] at *)
    k_dflt (refine' join_listW (ys := [Str.ofString (toString n)]) (News.isList (by k_asm) (by k_mem)) ?_ (by decide +kernel) ?_ ?_)
    · exact StrsAre.cons _ _ StrsAre.nil
    · have := int_text_len_1921 (i := n) (log_mid (by omega))
      simp only [List.map_cons, List.map_nil, List.sum_cons, List.sum_nil, List.length_cons, List.length_nil]
      omega
    · intro t' k
      exact ret_str (s := s) ret (Fr.keep (by assumption)) (join_one _)
  intro hf
  simpa only using (ensure_type_of% (quiet_coe hf (0 : Nat) (by exact rfl)) "" hf)
example : True := by
 (k_with "call ref" => ((fail_if_success (fail_if_success (have := @on_wh))); ((k_here; (with_reducible refine (?_ : wpAny _ _ (call (Value.ref 74) _) _ _ _)); k_dflt (refine' whole_text_ok ?kC ?kd ?k0 ?k1 ?_; (case kC => k_extra "ktr_rel"); (case kd => k_extra "ktr_unf"); (case k0 => first | with_reducible assumption | k_extra "tb_rel" | omega); (case k1 => first | with_reducible assumption | k_extra "tb_rel" | omega); k_whole; refine Ret.one (by k_asm) (by k_asm) ?_; intro t9 h9 tk9 F9 N9; (try dsimp only); (try k_fold))))))
 exact True.intro
end
-- part sp
example : True := by
 w_top off
 exact True.intro
namespace T_sp
theorem on_sp : True := True.intro
end T_sp
section
open T_sp T_mem
noncomputable def spX (n : Int) : Str := if n = 0 then Str.ofString "NaN" else if n > 0 then Str.ofString "Inf" else Str.ofString "-Inf"
theorem special_none_ok {prog : Program} {w : World} {p : Program} {loose : List Str} {mean : ExcName → Option Value} {mg mb : Str → Option Value} {dp un : Nat} {fs : Option (List Env)} {gd : Option (List Code)} {s : Shared} {Q E : Value → Shared → Prop}
    (C : Site w p loose mean mg mb s.heap) (hd : dp + 1 < recursionLimit)
    (ret : Ret s Q fun v _ => ∃ tk, v = .str (Str.ofString "NA") tk) : wpAny (model prog w) (At dp un fs gd) (call (.ref 81) [.none]) Q E s := by
  refine quietly ?_ ?_
  focus
    obtain ⟨X, T⟩ := C
    k_extra "tb_start"
    k_steps
    exact ret_str (s := s) ret (Fr.keep (by assumption)) rfl
  intro hf
  simpa only using (ensure_type_of% (quiet_coe hf (0 : Nat) (by exact rfl)) "" hf)
theorem special_tup_ok {prog : Program} {w : World} {p : Program} {loose : List Str} {mean : ExcName → Option Value} {mg mb : Str → Option Value} {dp un : Nat} {fs : Option (List Env)} {gd : Option (List Code)} {s : Shared} {Q E : Value → Shared → Prop} {n d : Int} {a : Addr} {t t' : Tok}
    (C : Site w p loose mean mg mb s.heap) (hd : dp + 1 < recursionLimit) (hx : IsTup s.heap a [Value.int n t, Value.int d t'].toArray)
    (ret : Ret s Q fun v _ => (0 < d ∧ v = .none) ∨ (¬ 0 < d ∧ ∃ tk, v = .str (spX n) tk)) : wpAny (model prog w) (At dp un fs gd) (call (.ref 81) [.ref a]) Q E s := by
  refine quietly ?_ ?_
  focus
    obtain ⟨X, T⟩ := C
    k_extra "tb_start"
    k_steps
    · exact ret _ _ _ (Fr.keep (by assumption)) (Or.inl ⟨by assumption, rfl⟩)
    all_goals exact ret_str (s := s) (fun v h' tk' k e => ret v h' tk' k (Or.inr ⟨by assumption, e⟩)) (Fr.keep (by assumption)) (by unfold spX; first | exact (if_pos (by assumption)).symm | (rw [if_neg (by assumption)]; first | exact (if_pos (by assumption)).symm | exact (if_neg (by assumption)).symm))
  intro hf
  simpa only using (ensure_type_of% (quiet_coe hf (0 : Nat) (by exact rfl)) "" hf)
example : True := by
 (k_with "call ref" => ((fail_if_success (fail_if_success (have := @on_sp))); ((k_here; (with_reducible refine (?_ : wpAny _ _ (call (Value.ref 81) [Value.none]) _ _ _)); k_dflt (refine' special_none_ok ?kC ?kd ?_; (case kC => k_extra "ktr_rel"); (case kd => k_extra "ktr_unf"); k_whole; refine Ret.one (by k_asm) (by k_asm) ?_; intro t9 h9 tk9 F9 N9; (try dsimp only); (try k_fold))))))
 exact True.intro
example : True := by
 (k_with "call ref" => ((fail_if_success (fail_if_success (have := @on_sp))); ((k_here; (with_reducible refine (?_ : wpAny _ _ (call (Value.ref 81) [Value.ref _]) _ _ _)); k_dflt (refine' special_tup_ok ?kC ?kd ?kx ?_; (case kC => k_extra "ktr_rel"); (case kd => k_extra "ktr_unf"); (case kx => k_extra "ktr_units"); k_whole; intro v9 h9 tk9 keep9 e9; rcases e9 with ⟨c9, q9⟩ | ⟨c9, t9, q9⟩ <;> (try (exfalso; omega)) <;> (try subst q9); all_goals (have F9 := fr_on (by k_asm) keep9; have N9 := news_on (by k_asm) keep9; (try simp only [List.nil_append, List.cons_append, List.append_nil] at N9); clear keep9; (try dsimp only); (try k_fold)))))))
 exact True.intro
end
-- part fx
example : True := by
 w_top off
 exact True.intro
namespace T_fx
theorem on_fx : True := True.intro
end T_fx
section
open T_nw T_ex T_sc T_sg T_wh T_fx T_mem
theorem fxn_hi {n d k : Int} (h0 : 0 < d) (hz : zabs n < 2 ^ 32) (hk : k ≤ 8) : nw (zabs n * 10 ^ k.toNat) d < 10 ^ 18 := by
  have hn := zabs_nn n
  have hk' : k.toNat ≤ 8 := by omega
  generalize k.toNat = j at hk'
  have hp : ∀ k, k ≤ 8 → (10 : Int) ^ k ≤ 10 ^ 8 := by decide
  have := nw_hi (n := zabs n * 10 ^ j) h0 (Int.mul_nonneg hn (Int.le_of_lt (Int.pow_pos (by decide))))
  have := Int.mul_le_mul_of_nonneg_left (hp j hk') hn
  omega
theorem fxn_lo {n d k : Int} (h0 : 0 < d) : 0 ≤ nw (zabs n * 10 ^ k.toNat) d := nw_lo h0 (Int.mul_nonneg (zabs_nn n) (Int.le_of_lt (Int.pow_pos (by decide))))
theorem fx_nn (n k : Int) : 0 ≤ zabs n * 10 ^ k.toNat := Int.mul_nonneg (zabs_nn n) (Int.le_of_lt (Int.pow_pos (by decide)))
example : True := by
 (k_with "tb_rel" => ((fail_if_success (fail_if_success (have := @on_fx))); (first | exact fxn_lo (by assumption) | exact fxn_hi (by assumption) (by assumption) (by assumption) | exact fx_nn _ _ | exact Or.inr (by omega))))
 exact True.intro
noncomputable def fxT (n d k : Int) : Str := Txt.rjustF (Str.ofString (toString (nw (zabs n * 10 ^ k.toNat) d))) (k + 1) ((Str.ofString "0").cps.getD 0 0)
theorem fxT_len {n d k : Int} (h0 : 0 < d) (hz : zabs n < 2 ^ 32) (hk : k ≤ 8) : (Txt.rjustF (Str.ofString (toString (nw (zabs n * 10 ^ k.toNat) d))) (k + 1) ((Str.ofString "0").cps.getD 0 0)).length ≤ 2000 := by
  have h1 := int_text_len_1921 (i := nw (zabs n * 10 ^ k.toNat) d) (log_mid (by have := fxn_hi h0 hz hk; have := fxn_lo (n := n) (k := k) h0; omega))
  unfold Txt.rjustF
  split
  · omega
  · rw [len_padded]; omega
noncomputable def fxB (T : Str) (k : Int) : Str := if 0 < k then Txt.slice T none (some ((T.length : Int) - k)) ++ Str.ofString "." ++ Txt.slice T (some ((T.length : Int) - k)) none else T
noncomputable def fx (n d k : Int) : Str := if n < 0 then Str.ofString "-" ++ fxB (fxT n d k) k else fxB (fxT n d k) k
theorem fixed_text_ok {prog : Program} {w : World} {p : Program} {loose : List Str} {mean : ExcName → Option Value} {mg mb : Str → Option Value} {dp un : Nat} {fs : Option (List Env)} {gd : Option (List Code)} {s : Shared} {Q E : Value → Shared → Prop} {n d k : Int} {a : Addr} {t t' tk0 : Tok}
    (C : Site w p loose mean mg mb s.heap) (hd : dp + 2 < recursionLimit) (hx : IsTup s.heap a [Value.int n t, Value.int d t'].toArray) (h0 : 0 < d) (hd' : d < 2 ^ 32) (hn' : -2 ^ 32 < n) (hn'' : n < 2 ^ 32) (k0 : 0 ≤ k) (k1 : k ≤ 8)
    (ret : Ret s Q fun v _ => ∃ tk, v = .str (fx n d k) tk) : wpAny (model prog w) (At dp un fs gd) (call (.ref 116) [.ref a, .int k tk0]) Q E s := by
  refine quietly ?_ ?_
  focus
    obtain ⟨X, T⟩ := C
    have hz : zabs n < 2 ^ 32 := by unfold zabs; split <;> omega
    have hz0 := zabs_nn n
    have hl := fxT_len h0 hz k1
    k_extra "tb_start"
    k_steps
    all_goals (refine ret_str (s := s) ret (Fr.keep (by assumption)) ?_)
    all_goals (unfold fx fxB fxT; first | rw [if_pos (by assumption : n < 0)] | rw [if_neg (by assumption : ¬ n < 0)])
    all_goals first | rw [if_pos (by assumption : 0 < k)] | rw [if_neg (by assumption : ¬ 0 < k)]
  intro hf
  simpa only using (ensure_type_of% (quiet_coe hf (0 : Nat) (by exact rfl)) "" hf)
example : True := by
 (k_with "call ref" => ((fail_if_success (fail_if_success (have := @on_fx))); ((k_here; (with_reducible refine (?_ : wpAny _ _ (call (Value.ref 116) _) _ _ _)); k_dflt (refine' fixed_text_ok ?kC ?kd ?kx ?k0 ?k1 ?k2 ?k3 ?k4 ?k5 ?_; (case kC => k_extra "ktr_rel"); (case kd => k_extra "ktr_unf"); (case kx => k_extra "ktr_units"); (case k0 => first | with_reducible assumption | k_extra "tb_rel" | omega); (case k1 => first | with_reducible assumption | k_extra "tb_rel" | omega); (case k2 => first | with_reducible assumption | k_extra "tb_rel" | omega); (case k3 => first | with_reducible assumption | k_extra "tb_rel" | omega); (case k4 => first | with_reducible assumption | k_extra "tb_rel" | omega); (case k5 => first | with_reducible assumption | k_extra "tb_rel" | omega); k_whole; refine Ret.one (by k_asm) (by k_asm) ?_; intro t9 h9 tk9 F9 N9; (try dsimp only); (try k_fold))))))
 exact True.intro
end
-- part st
example : True := by
 w_top off
 exact True.intro
namespace T_st
theorem on_st : True := True.intro
end T_st
section
open T_nw T_ex T_sc T_sg T_st T_mem
theorem rjustF_len (x : Str) (i : Int) (c : Nat) : (Txt.rjustF x i c).length ≤ x.length + i.toNat := by
  unfold Txt.rjustF; split
  · omega
  · rw [len_padded]; omega
noncomputable def stX (n d : Int) : Str := Str.ofString "" ++ Txt.item (sgX 1 n d) 0 ++ (if sgF 1 n d < 0 then Str.ofString "e-" else Str.ofString "e+") ++ Txt.rjustF (Str.ofString (toString (zabs (sgF 1 n d)))) 2 ((Str.ofString "0").cps.getD 0 0)
theorem scientific_text_ok {prog : Program} {w : World} {p : Program} {loose : List Str} {mean : ExcName → Option Value} {mg mb : Str → Option Value} {dp un : Nat} {fs : Option (List Env)} {gd : Option (List Code)} {s : Shared} {Q E : Value → Shared → Prop} {n d : Int} {a : Addr} {t t' tk0 : Tok}
    (C : Site w p loose mean mg mb s.heap) (hd : dp + 4 < recursionLimit) (hx : IsTup s.heap a [Value.int n t, Value.int d t'].toArray) (h0 : 0 < d) (hd' : d < 2 ^ 32) (hn' : 0 < n) (hn'' : n < 2 ^ 32)
    (ret : Ret s Q fun v _ => ∃ tk, v = .str (stX n d) tk) : wpAny (model prog w) (At dp un fs gd) (call (.ref 109) [.ref a, .int 1 tk0]) Q E s := by
  refine quietly ?_ ?_
  focus
    obtain ⟨X, T⟩ := C
    have hz : zabs n < 2 ^ 32 := by unfold zabs; split <;> omega
    obtain ⟨f1, f2, f3, f4⟩ := sig_fits (D := 1) h0 hd' hz (by decide) (by decide)
    have hs : sgS n = 1 := by unfold sgS; (repeat' split) <;> omega
    have f5 := zabs_nn (sgF 1 n d)
    have f6 : zabs (sgF 1 n d) ≤ 12 := by unfold zabs; split <;> omega
    have hj := rjustF_len (Str.ofString (toString (zabs (sgF 1 n d)))) 2 ((Str.ofString "0").cps.getD 0 0)
    have hj' := int_text_len_1921 (i := zabs (sgF 1 n d)) (log_mid (by omega))
    have hl : (Txt.rjustF (Str.ofString (toString (zabs (sgF 1 n d)))) 2 ((Str.ofString "0").cps.getD 0 0)).length ≤ 1923 := by omega
    clear hj hj'
    k_extra "tb_start"
    k_steps
    all_goals (refine ret_str (s := s) ret (Fr.keep (by assumption)) ?_)
    · unfold stX; rw [if_pos (by assumption)]
    · unfold stX; rw [if_neg (by assumption)]
  intro hf
  simpa only using (ensure_type_of% (quiet_coe hf (0 : Nat) (by exact rfl)) "" hf)
example : True := by
 (k_with "call ref" => ((fail_if_success (fail_if_success (have := @on_st))); ((k_here; (with_reducible refine (?_ : wpAny _ _ (call (Value.ref 109) _) _ _ _)); k_dflt (refine' scientific_text_ok ?kC ?kd ?kx ?k0 ?k1 ?k2 ?k3 ?_; (case kC => k_extra "ktr_rel"); (case kd => k_extra "ktr_unf"); (case kx => k_extra "ktr_units"); (case k0 => first | with_reducible assumption | k_extra "tb_rel" | omega); (case k1 => first | with_reducible assumption | k_extra "tb_rel" | omega); (case k2 => first | with_reducible assumption | k_extra "tb_rel" | omega); (case k3 => first | with_reducible assumption | k_extra "tb_rel" | omega); k_whole; refine Ret.one (by k_asm) (by k_asm) ?_; intro t9 h9 tk9 F9 N9; (try dsimp only); (try k_fold))))))
 exact True.intro
end
-- part fm
example : True := by
 w_top off
 exact True.intro
namespace T_fm
theorem on_fm : True := True.intro
end T_fm
section
open T_nw T_ex T_sc T_sg T_wt T_me T_wh T_sp T_fx T_st T_lp T_cf T_fm T_mem
inductive NumAt (h : Heap) : Value → Option (Int × Int) → Prop
  | none : NumAt h .none none
  | some {a : Addr} {n d : Int} {t t' : Tok} : IsTup h a [Value.int n t, Value.int d t'].toArray → NumAt h (.ref a) (some (n, d))
theorem NumAt.keeps {h h' : Heap} (k : Keeps h h') {v : Value} {x : Option (Int × Int)} : NumAt h v x → NumAt h' v x
  | .none => .none
  | .some t => .some (IsTup.keeps t k)
noncomputable def fmX (x : Option (Int × Int)) (f : Bool × Int) : Str := match x with
  | none => Str.ofString "NA"
  | some (n, d) => if 0 < d then (if f.1 = true then fx n d f.2 else stX n d) else spX n
noncomputable def FmOk (x : Option (Int × Int)) (f : Bool × Int) : Prop := match x with
  | none => True
  | some (n, d) => 0 < d → d < 2 ^ 32 ∧ -2 ^ 32 < n ∧ n < 2 ^ 32 ∧ (f.1 = true → 0 ≤ f.2 ∧ f.2 ≤ 8) ∧ (f.1 = false → f.2 = 1 ∧ 0 < n)
theorem formed_ok {prog : Program} {w : World} {p : Program} {loose : List Str} {mean : ExcName → Option Value} {mg mb : Str → Option Value} {dp un : Nat} {fs : Option (List Env)} {gd : Option (List Code)} {s : Shared} {Q E : Value → Shared → Prop} {v : Value} {x : Option (Int × Int)} {f : Bool × Int} {fa : Addr} {u1 u2 : Tok}
    (C : Site w p loose mean mg mb s.heap) (hd : dp + 5 < recursionLimit) (hx : NumAt s.heap v x) (hf : IsTup s.heap fa [Value.str (formS f.1) u1, Value.int f.2 u2].toArray) (ok : FmOk x f)
    (ret : Ret s Q fun v _ => ∃ tk, v = .str (fmX x f) tk) : wpAny (model prog w) (At dp un fs gd) (call (.ref 137) [v, .ref fa]) Q E s := by
  refine quietly ?_ ?_
  focus
    obtain ⟨X, T⟩ := C
    cases hx with
    | none =>
      k_extra "tb_start"
      k_steps
      exact ret_str (s := s) ret (Fr.keep (by assumption)) rfl
    | @some a n d t t' hT =>
      unfold FmOk at ok
      by_cases hd0 : 0 < d
      · obtain ⟨o1, o2, o3, o4, o5⟩ := ok hd0
        clear ok
        obtain ⟨b, k⟩ := f
        cases b with
        | true =>
          obtain ⟨o6, o7⟩ := o4 rfl
          clear o4 o5
          dsimp only [formS] at *
          k_extra "tb_start"
          k_steps
          exact ret_str (s := s) ret (Fr.keep (by assumption)) (if_pos hd0).symm
        | false =>
          obtain ⟨rfl, o6⟩ := o5 rfl
          clear o4 o5
          dsimp only [formS] at *
          k_extra "tb_start"
          k_steps
          exact ret_str (s := s) ret (Fr.keep (by assumption)) (if_pos hd0).symm
      · clear ok
        k_extra "tb_start"
        k_steps
        exact ret_str (s := s) ret (Fr.keep (by assumption)) (if_neg hd0).symm
  intro hf
  simpa only using (ensure_type_of% (quiet_coe hf (0 : Nat) (by exact rfl)) "" hf)
example : True := by
 (k_with "call ref" => ((fail_if_success (fail_if_success (have := @on_fm))); ((k_here; (with_reducible refine (?_ : wpAny _ _ (call (Value.ref 137) _) _ _ _)); k_dflt (refine' formed_ok ?kC ?kd ?kx ?kf ?k0 ?_; (case kC => k_extra "ktr_rel"); (case kd => k_extra "ktr_unf"); (case kx => first | exact NumAt.none | exact NumAt.some (by k_extra "ktr_units")); (case kf => k_extra "ktr_units"); (case k0 => first | with_reducible assumption | k_extra "tb_rel"); k_whole; refine Ret.one (by k_asm) (by k_asm) ?_; intro t9 h9 tk9 F9 N9; (try dsimp only); (try k_fold))))))
 exact True.intro
end
-- part ct
example : True := by
 w_top off
 exact True.intro
namespace T_ct
theorem on_ct : True := True.intro
end T_ct
section
open T_fd T_nw T_ex T_sc T_sg T_wt T_me T_wh T_sp T_fx T_st T_lp T_cf T_fm T_ct T_mem
theorem fracs_nil : ∀ x ∈ ([] : List (Int × Int)), FracOk x := fun _ h => nomatch h
theorem fracs_one {x : Int × Int} (h : FracOk x) : ∀ y ∈ [x], FracOk y := fun y hy => by rw [List.mem_singleton.mp hy]; exact h
noncomputable def fracsOf : Option (Int × Int) → List (Int × Int)
  | none => []
  | some x => if 0 < x.2 then [x] else []
noncomputable def nmF (x : Option (Int × Int)) : Bool × Int := cfOf (cf4 (fracsOf x))
noncomputable def nmX (x : Option (Int × Int)) : Str := fmX x (nmF x)
example : True := by
 (k_with "tb_rel" => ((fail_if_success (fail_if_success (have := @on_ct))); (first | exact TupsAt.nil | exact TupsAt.cons (by k_extra "ktr_units") TupsAt.nil | exact fracs_nil | exact fracs_one (by assumption))))
 exact True.intro
theorem ret_new1 {s : Shared} {Q : Value → Shared → Prop} {P : Value → Heap → Prop} {r L l : Addr} {o ol : Obj} {g : Heap} {m : Str → Option Value} {rest : List (Addr × Obj)} {h' : Heap} {tk' : Nat} (ret : Ret s Q P) (hl : s.heap.get? l = some ol) (hg : hideAll s.heap [l] = g) (F : Fr g L h' m)
    (N : News g L h' ((r, o) :: rest)) (hs : (l, ol) ∈ rest) (hr : l ≠ r) (hp : s.heap.get? r = none → h'.get? r = some o → P (.ref r) h') : Q (.ref r) { s with heap := h', toks := tk' } := by
  subst hg
  refine ret _ _ _ (hide_back (news := [(l, ol)]) F.keep (by simpa using hl) (by simpa using (N _ (.tail _ hs)).1)) (hp ?_ (N _ (.head _)).1)
  cases z : s.heap.get? r with
  | none => rfl
  | some o' =>
    have := hideAll_get [l] z (fun q => hr (List.mem_singleton.mp q).symm)
    rw [(N _ (.head _)).2.2] at this; cases this
theorem common_texts_ok {prog : Program} {w : World} {p : Program} {loose : List Str} {mean : ExcName → Option Value} {mg mb : Str → Option Value} {dp un : Nat} {fs : Option (List Env)} {gd : Option (List Code)} {s : Shared} {Q E : Value → Shared → Prop} {l : Addr} {v : Value} {x : Option (Int × Int)} {k : Nat} {td : Tok}
    (C : SiteN w p loose mean mg mb s.heap [l]) (hd : dp + 8 < recursionLimit) (hl : s.heap.get? l = some (listOf [v].toArray k)) (hv : NumAt (hideAll s.heap [l]) v x) (ok : FmOk x (nmF x)) (fr : ∀ y ∈ fracsOf x, FracOk y)
    (ret : Ret s Q fun v h' => ∃ r tk n, v = .ref r ∧ s.heap.get? r = none ∧ h'.get? r = some (listOf [.str (nmX x) tk].toArray n)) : wpAny (model prog w) (At dp un fs gd) (call (.ref 142) [.ref l, .int 7 td]) Q E s := by
  refine quietly ?_ ?_
  focus
    have C' : SiteN w p loose mean mg mb s.heap ([(l, listOf [v].toArray k)].map (·.1)) := C
    have hn : ∀ q ∈ [(l, listOf [v].toArray k)], s.heap.get? q.1 = some q.2 := by simpa using hl
    cases hv with
    | none =>
      have ok' : FmOk none (cfOf (cf4 [])) := ok
      k_extra "kwd_less"
      k_steps
      exact ret_new1 (s := s) ret hl (by assumption) (by assumption) (by assumption) (by k_mem) (by k_ne) fun q1 q2 => ⟨_, _, _, rfl, q1, q2⟩
    | @some a n d t t' hT =>
      by_cases hd0 : 0 < d
      · have hfr : fracsOf (some (n, d)) = [(n, d)] := if_pos hd0
        have fr1 := fr (n, d) (by rw [hfr]; exact .head _)
        have ok' : FmOk (some (n, d)) (cfOf (cf4 [(n, d)])) := by have := ok; unfold nmF at this; rwa [hfr] at this
        have hX : nmX (some (n, d)) = fmX (some (n, d)) (cfOf (cf4 [(n, d)])) := by unfold nmX nmF; rw [hfr]
        rw [hX] at ret
        clear fr hfr ok hX
        k_extra "kwd_less"
        subst_vars
        k_steps
        exact ret_new1 (s := s) ret hl rfl (by assumption) (by assumption) (by k_mem) (by k_ne) fun q1 q2 => ⟨_, _, _, rfl, q1, q2⟩
      · have hfr : fracsOf (some (n, d)) = [] := if_neg hd0
        have ok' : FmOk (some (n, d)) (cfOf (cf4 [])) := by have := ok; unfold nmF at this; rwa [hfr] at this
        have hX : nmX (some (n, d)) = fmX (some (n, d)) (cfOf (cf4 [])) := by unfold nmX nmF; rw [hfr]
        rw [hX] at ret
        clear fr hfr ok hX
        k_extra "kwd_less"
        subst_vars
        k_steps
        exact ret_new1 (s := s) ret hl rfl (by assumption) (by assumption) (by k_mem) (by k_ne) fun q1 q2 => ⟨_, _, _, rfl, q1, q2⟩
  intro hf
  simpa only using (ensure_type_of% (quiet_coe hf (0 : Nat) (by exact rfl)) "" hf)
end
-- part nt
example : True := by
 w_top off
 exact True.intro
namespace T_nt
theorem on_nt : True := True.intro
end T_nt
section
open T_ct T_nt T_mem
theorem siteN_of {w : World} {p : Program} {loose : List Str} {mean : ExcName → Option Value} {mg mb : Str → Option Value} {h₀ h : Heap} {L l : Addr} {o : Obj} {m : Str → Option Value} {news : List (Addr × Obj)} (X : (hd.heap_1_1 w.params).In h₀) (T : Top p loose mean mg mb h₀) (F : Fr h₀ L h m) (N : News h₀ L h news) (hm : (l, o) ∈ news) : SiteN w p loose mean mg mb h [l] :=
  ⟨h₀, ⟨X, T⟩, F.keep, fun a ha => by rw [List.mem_singleton.mp ha]; exact (N _ hm).2.2⟩
theorem keep_hide {h₀ h : Heap} {L l : Addr} {o : Obj} {m : Str → Option Value} {news : List (Addr × Obj)} (F : Fr h₀ L h m) (N : News h₀ L h news) (hm : (l, o) ∈ news) : Keeps h₀ (hideAll h [l]) := fun a o' e => hideAll_get _ (F.keep a o' e) fun q => by
  rw [List.mem_singleton.mp q, (N _ hm).2.2] at e; cases e
example : True := by
 (k_with "call ref" => ((fail_if_success (fail_if_success (have := @on_nt))); ((k_here; (with_reducible refine (?_ : wpAny _ _ (call (Value.ref 142) _) _ _ _)); k_dflt (refine' common_texts_ok ?kC ?kd ?kl ?kv ?k0 ?k1 ?_; (case kl => exact (News.get (by k_asm) (by k_mem))); (case kC => exact siteN_of (by k_asm) (by k_asm) (by k_asm) (by k_asm) (by k_mem)); (case kd => k_extra "ktr_unf"); (case kv => exact NumAt.keeps (keep_hide (by k_asm) (by k_asm) (by k_mem)) (by assumption)); (case k0 => assumption); (case k1 => assumption); k_whole; refine Ret.new2 (by k_asm) (by k_asm) ?_; intro r9 u9 u9' h9 tk9 o9 N9 F9; (try simp only [List.nil_append, List.cons_append, List.append_nil, AllNe, and_true] at o9); (try dsimp only); (try k_fold))))))
 exact True.intro
theorem number_text_ok {prog : Program} {w : World} {p : Program} {loose : List Str} {mean : ExcName → Option Value} {mg mb : Str → Option Value} {dp un : Nat} {fs : Option (List Env)} {gd : Option (List Code)} {s : Shared} {Q E : Value → Shared → Prop} {v : Value} {x : Option (Int × Int)} {td : Tok}
    (C : Site w p loose mean mg mb s.heap) (hd : dp + 9 < recursionLimit) (hv : NumAt s.heap v x) (ok : FmOk x (nmF x)) (fr : ∀ y ∈ fracsOf x, FracOk y)
    (ret : Ret s Q fun v _ => ∃ tk, v = .str (nmX x) tk) : wpAny (model prog w) (At dp un fs gd) (call (.ref 150) [v, .int 7 td]) Q E s := by
  refine quietly ?_ ?_
  focus
    obtain ⟨X, T⟩ := C
    k_extra "tb_start"
    k_steps
    exact ret_str (s := s) ret (Fr.keep (by assumption)) rfl
  intro hf
  simpa only using (ensure_type_of% (quiet_coe hf (0 : Nat) (by exact rfl)) "" hf)
example : True := by
 (k_with "call ref" => ((fail_if_success (fail_if_success (have := @on_nt))); ((k_here; (with_reducible refine (?_ : wpAny _ _ (call (Value.ref 150) _) _ _ _)); k_dflt (refine' number_text_ok ?kC ?kd ?kv ?k0 ?k1 ?_; (case kC => k_extra "ktr_rel"); (case kd => k_extra "ktr_unf"); (case kv => exact NumAt.keeps (Fr.keep (by k_asm)) (by assumption)); (case k0 => assumption); (case k1 => assumption); k_whole; refine Ret.one (by k_asm) (by k_asm) ?_; intro t9 h9 tk9 F9 N9; (try dsimp only); (try k_fold))))))
 exact True.intro
end
-- part vec
example : True := by
 w_top off
 exact True.intro
namespace T_vec
theorem on_vec : True := True.intro
end T_vec
section
open T_nw T_vec T_mem
noncomputable abbrev vecDict (w : World) (k : Str) (kt : Tok) (l : Addr) (t1 t2 t3 t4 t5 : Tok) : Obj :=
  dictOf [⟨PyData.keyHash w.params (Str.ofString "kind"), .str (Str.ofString "kind") t1, .str k kt⟩, ⟨PyData.keyHash w.params (Str.ofString "items"), .str (Str.ofString "items") t2, .ref l⟩, ⟨PyData.keyHash w.params (Str.ofString "attrs"), .str (Str.ofString "attrs") t3, .none⟩,
    ⟨PyData.keyHash w.params (Str.ofString "shared"), .str (Str.ofString "shared") t4, .bool false⟩, ⟨PyData.keyHash w.params (Str.ofString "loose"), .str (Str.ofString "loose") t5, .bool false⟩] 5
noncomputable def VecAt (w : World) (h : Heap) (a : Addr) (k : Str) (l : Addr) : Prop :=
  ∃ dx kt t1 t2 t3 t4 t5, h.get? a = some (instObj 230 dx) ∧ h.get? dx = some (vecDict w k kt l t1 t2 t3 t4 t5)
theorem VecAt.keeps {w : World} {h h' : Heap} {a l : Addr} {k : Str} (q : Keeps h h') : VecAt w h a k l → VecAt w h' a k l
  | ⟨dx, kt, t1, t2, t3, t4, t5, e1, e2⟩ => ⟨dx, kt, t1, t2, t3, t4, t5, q _ _ e1, q _ _ e2⟩
theorem inst_base {h₀ h : Heap} {x C dx : Addr} {od : Obj} {sl : Array (Option Value)} (k : Keeps h₀ h) (h1 : h₀.get? x = some ⟨.ref C, some dx, .plain, sl⟩) (h2 : h₀.get? dx = some od) : InstAt h x ⟨.ref C, some dx, .plain, sl⟩ C (some od) := ⟨k _ _ h1, rfl, rfl, k _ _ h2⟩
example : True := by
 (k_with "k_inst" => ((fail_if_success (fail_if_success (have := @on_vec))); (exact inst_base (Fr.keep (by k_asm)) (by assumption) (by assumption))))
 exact True.intro
noncomputable def isAtom (k : Str) : Bool := [Str.ofString "logical", Str.ofString "integer", Str.ofString "double", Str.ofString "character"].any fun x => x == k
theorem is_atomic_ok {prog : Program} {w : World} {p : Program} {loose : List Str} {mean : ExcName → Option Value} {mg mb : Str → Option Value} {dp un : Nat} {fs : Option (List Env)} {gd : Option (List Code)} {s : Shared} {Q E : Value → Shared → Prop} {a l : Addr} {k : Str}
    (C : Site w p loose mean mg mb s.heap) (hd : dp + 1 < recursionLimit) (hu : un + 20 < cLine) (hv : VecAt w s.heap a k l)
    (ret : Ret s Q fun v _ => v = .bool (isAtom k)) : wpAny (model prog w) (At dp un fs gd) (call (.ref 262) [.ref a]) Q E s := by
  refine quietly ?_ ?_
  focus
    obtain ⟨X, T⟩ := C
    obtain ⟨dx, kt, t1, t2, t3, t4, t5, e1, e2⟩ := hv
    k_extra "tb_start"
    k_steps
    exact ret_bool (s := s) ret (Fr.keep (by assumption)) rfl
  intro hf
  simpa only using (ensure_type_of% (quiet_coe hf (0 : Nat) (by exact rfl)) "" hf)
example : True := by
 (k_with "call ref" => ((fail_if_success (fail_if_success (have := @on_vec))); ((k_here; (with_reducible refine (?_ : wpAny _ _ (call (Value.ref 262) _) _ _ _)); k_dflt (refine' is_atomic_ok ?kC ?kd ?ku ?kv ?_; (case kC => k_extra "ktr_rel"); (case kd => k_extra "ktr_unf"); (case ku => k_extra "kwd_rel"); (case kv => k_extra "ktd_rel"); k_whole; intro v9 h9 tk9 keep9 e9; subst e9; have F9 := fr_on (by k_asm) keep9; have N9 := news_on (by k_asm) keep9; (try simp only [List.nil_append, List.cons_append, List.append_nil] at N9); clear keep9; (try dsimp only); (try k_fold))))))
 exact True.intro
example : True := by
 (k_with "kwd_rel" => ((fail_if_success (fail_if_success (have := @on_vec))); (first | k_extra "dlt" | ((try dsimp only [At, Around.deeper, Around.under, Around.mark, Around.in1]); k_extra "dlt") | omega | ((try simp only [units_in1, units_deeper, Around.mark_units, units_caller] at *); (try dsimp only [At, Around.deeper, Around.under, Around.mark, Around.in1]); omega))))
 exact True.intro
example : True := by
 (k_with "ktd_rel" => ((fail_if_success (fail_if_success (have := @on_vec))); (first | with_reducible assumption | exact VecAt.keeps (Fr.keep (by k_asm)) (by assumption) | exact ⟨_, _, _, _, _, _, _, News.get (by k_asm) (by k_mem), News.get (by k_asm) (by k_mem)⟩)))
 exact True.intro
end
-- part ci
example : True := by
 w_top off
 exact True.intro
namespace T_ci
theorem on_ci : True := True.intro
end T_ci
section
open T_nt T_vec T_ci T_mem
noncomputable def lgX (i : Int) : Str := if i = 1 then Str.ofString "TRUE" else Str.ofString "FALSE"
theorem logical_text_ok {prog : Program} {w : World} {p : Program} {loose : List Str} {mean : ExcName → Option Value} {mg mb : Str → Option Value} {dp un : Nat} {fs : Option (List Env)} {gd : Option (List Code)} {s : Shared} {Q E : Value → Shared → Prop} {i : Int} {t : Tok}
    (C : Site w p loose mean mg mb s.heap) (hd : dp + 1 < recursionLimit)
    (ret : Ret s Q fun v _ => ∃ tk, v = .str (lgX i) tk) : wpAny (model prog w) (At dp un fs gd) (call (.ref 169) [.int i t]) Q E s := by
  refine quietly ?_ ?_
  focus
    obtain ⟨X, T⟩ := C
    k_extra "tb_start"
    k_steps
    all_goals exact ret_str (s := s) ret (Fr.keep (by assumption)) (by unfold lgX; first | exact (if_pos (by assumption)).symm | exact (if_neg (by assumption)).symm)
  intro hf
  simpa only using (ensure_type_of% (quiet_coe hf (0 : Nat) (by exact rfl)) "" hf)
example : True := by
 (k_with "call ref" => ((fail_if_success (fail_if_success (have := @on_ci))); ((k_here; (with_reducible refine (?_ : wpAny _ _ (call (Value.ref 169) _) _ _ _)); k_dflt (refine' logical_text_ok ?kC ?kd ?_; (case kC => k_extra "ktr_rel"); (case kd => k_extra "ktr_unf"); k_whole; refine Ret.one (by k_asm) (by k_asm) ?_; intro t9 h9 tk9 F9 N9; (try dsimp only); (try k_fold))))))
 exact True.intro
theorem format_double_ok {prog : Program} {w : World} {p : Program} {loose : List Str} {mean : ExcName → Option Value} {mg mb : Str → Option Value} {dp un : Nat} {fs : Option (List Env)} {gd : Option (List Code)} {s : Shared} {Q E : Value → Shared → Prop} {v : Value} {x : Option (Int × Int)} {tk td : Tok}
    (C : Site w p loose mean mg mb s.heap) (hd : dp + 10 < recursionLimit) (hv : NumAt s.heap v x) (ok : FmOk x (nmF x)) (fr : ∀ y ∈ fracsOf x, FracOk y)
    (ret : Ret s Q fun v _ => ∃ tk, v = .str (nmX x) tk) : wpAny (model prog w) (At dp un fs gd) (call (.ref 184) [.str (Str.ofString "double") tk, v, .int 7 td]) Q E s := by
  refine quietly ?_ ?_
  focus
    obtain ⟨X, T⟩ := C
    k_extra "tb_start"
    k_steps
    exact ret_str (s := s) ret (Fr.keep (by assumption)) rfl
  intro hf
  simpa only using (ensure_type_of% (quiet_coe hf (0 : Nat) (by exact rfl)) "" hf)
theorem format_logical_ok {prog : Program} {w : World} {p : Program} {loose : List Str} {mean : ExcName → Option Value} {mg mb : Str → Option Value} {dp un : Nat} {fs : Option (List Env)} {gd : Option (List Code)} {s : Shared} {Q E : Value → Shared → Prop} {i : Int} {t tk td : Tok}
    (C : Site w p loose mean mg mb s.heap) (hd : dp + 2 < recursionLimit)
    (ret : Ret s Q fun v _ => ∃ tk, v = .str (lgX i) tk) : wpAny (model prog w) (At dp un fs gd) (call (.ref 184) [.str (Str.ofString "logical") tk, .int i t, .int 7 td]) Q E s := by
  refine quietly ?_ ?_
  focus
    obtain ⟨X, T⟩ := C
    k_extra "tb_start"
    k_steps
    exact ret_str (s := s) ret (Fr.keep (by assumption)) rfl
  intro hf
  simpa only using (ensure_type_of% (quiet_coe hf (0 : Nat) (by exact rfl)) "" hf)
example : True := by
 (k_with "call ref" => ((fail_if_success (fail_if_success (have := @on_ci))); ((k_here; (with_reducible refine (?_ : wpAny _ _ (call (Value.ref 184) _) _ _ _)); k_dflt (first | (refine' format_double_ok ?kC ?kd ?kv ?k0 ?k1 ?_; (case kv => first | assumption | exact NumAt.keeps (Fr.keep (by k_asm)) (by assumption)); (case k0 => assumption); (case k1 => assumption)) | refine' format_logical_ok ?kC ?kd ?_); (case kC => k_extra "ktr_rel"); (case kd => k_extra "ktr_unf"); k_whole; refine Ret.one (by k_asm) (by k_asm) ?_; intro t9 h9 tk9 F9 N9; (try dsimp only); (try k_fold)))))
 exact True.intro
theorem cat_double_ok {prog : Program} {w : World} {p : Program} {loose : List Str} {mean : ExcName → Option Value} {mg mb : Str → Option Value} {dp un : Nat} {fs : Option (List Env)} {gd : Option (List Code)} {s : Shared} {Q E : Value → Shared → Prop} {v : Value} {x : Option (Int × Int)} {td : Tok}
    (C : Site w p loose mean mg mb s.heap) (hd : dp + 11 < recursionLimit) (hv : NumAt s.heap v x) (ok : FmOk x (nmF x)) (fr : ∀ y ∈ fracsOf x, FracOk y)
    (ret : Ret s Q fun v _ => ∃ tk, v = .str (nmX x) tk) : wpAny (model prog w) (At dp un fs gd) (call (.ref 295) [.str (Str.ofString "double") td, v]) Q E s := by
  refine quietly ?_ ?_
  focus
    obtain ⟨X, T⟩ := C
    cases hv with
    | none =>
      k_extra "tb_start"
      k_steps
      exact ret_str (s := s) ret (Fr.keep (by assumption)) rfl
    | @some a n d t t' hT =>
      have hv := NumAt.some hT
      k_extra "tb_start"
      k_steps
      exact ret_str (s := s) ret (Fr.keep (by assumption)) rfl
  intro hf
  simpa only using (ensure_type_of% (quiet_coe hf (0 : Nat) (by exact rfl)) "" hf)
inductive TxtAt : Value → Option Str → Prop
  | none : TxtAt .none none
  | some {y : Str} {t : Tok} : TxtAt (.str y t) (some y)
noncomputable def ctX : Option Str → Str
  | none => Str.ofString "NA"
  | some y => y
theorem cat_char_ok {prog : Program} {w : World} {p : Program} {loose : List Str} {mean : ExcName → Option Value} {mg mb : Str → Option Value} {dp un : Nat} {fs : Option (List Env)} {gd : Option (List Code)} {s : Shared} {Q E : Value → Shared → Prop} {v : Value} {x : Option Str} {td : Tok}
    (C : Site w p loose mean mg mb s.heap) (hd : dp + 1 < recursionLimit) (hv : TxtAt v x)
    (ret : Ret s Q fun v _ => ∃ tk, v = .str (ctX x) tk) : wpAny (model prog w) (At dp un fs gd) (call (.ref 295) [.str (Str.ofString "character") td, v]) Q E s := by
  refine quietly ?_ ?_
  focus
    obtain ⟨X, T⟩ := C
    cases hv with
    | none =>
      k_extra "tb_start"
      k_steps
      exact ret_str (s := s) ret (Fr.keep (by assumption)) rfl
    | some =>
      k_extra "tb_start"
      k_steps
      exact ret_str (s := s) ret (Fr.keep (by assumption)) rfl
  intro hf
  simpa only using (ensure_type_of% (quiet_coe hf (0 : Nat) (by exact rfl)) "" hf)
theorem cat_logical_ok {prog : Program} {w : World} {p : Program} {loose : List Str} {mean : ExcName → Option Value} {mg mb : Str → Option Value} {dp un : Nat} {fs : Option (List Env)} {gd : Option (List Code)} {s : Shared} {Q E : Value → Shared → Prop} {i : Int} {t td : Tok}
    (C : Site w p loose mean mg mb s.heap) (hd : dp + 3 < recursionLimit)
    (ret : Ret s Q fun v _ => ∃ tk, v = .str (lgX i) tk) : wpAny (model prog w) (At dp un fs gd) (call (.ref 295) [.str (Str.ofString "logical") td, .int i t]) Q E s := by
  refine quietly ?_ ?_
  focus
    obtain ⟨X, T⟩ := C
    k_extra "tb_start"
    k_steps
    exact ret_str (s := s) ret (Fr.keep (by assumption)) rfl
  intro hf
  simpa only using (ensure_type_of% (quiet_coe hf (0 : Nat) (by exact rfl)) "" hf)
inductive ItemAt (h : Heap) : Str → Value → Str → Prop
  | dbl {v : Value} {x : Option (Int × Int)} : NumAt h v x → FmOk x (nmF x) → (∀ y ∈ fracsOf x, FracOk y) → ItemAt h (Str.ofString "double") v (nmX x)
  | chr {v : Value} {x : Option Str} : TxtAt v x → ItemAt h (Str.ofString "character") v (ctX x)
  | lgc {i : Int} {t : Tok} : ItemAt h (Str.ofString "logical") (.int i t) (lgX i)
theorem ItemAt.keeps {h h' : Heap} (q : Keeps h h') {k : Str} {v : Value} {y : Str} : ItemAt h k v y → ItemAt h' k v y
  | .dbl a b c => .dbl (a.keeps q) b c
  | .chr a => .chr a
  | .lgc => .lgc
theorem cat_item_ok {prog : Program} {w : World} {p : Program} {loose : List Str} {mean : ExcName → Option Value} {mg mb : Str → Option Value} {dp un : Nat} {fs : Option (List Env)} {gd : Option (List Code)} {s : Shared} {Q E : Value → Shared → Prop} {k : Str} {v : Value} {y : Str} {td : Tok}
    (C : Site w p loose mean mg mb s.heap) (hd : dp + 11 < recursionLimit) (hv : ItemAt s.heap k v y)
    (ret : Ret s Q fun v _ => ∃ tk, v = .str y tk) : wpAny (model prog w) (At dp un fs gd) (call (.ref 295) [.str k td, v]) Q E s := by
  cases hv with
  | dbl a b c => exact cat_double_ok C hd a b c ret
  | chr a => exact cat_char_ok C (by omega) a ret
  | lgc => exact cat_logical_ok C (by omega) ret
inductive ItemsAt (h : Heap) (k : Str) : List Value → List Str → Prop
  | nil : ItemsAt h k [] []
  | cons {v : Value} {y : Str} {vs : List Value} {ys : List Str} : ItemAt h k v y → ItemsAt h k vs ys → ItemsAt h k (v :: vs) (y :: ys)
theorem ItemsAt.length {h : Heap} {k : Str} : ∀ {vs : List Value} {ys : List Str}, ItemsAt h k vs ys → vs.length = ys.length
  | _, _, .nil => rfl
  | _, _, .cons _ r => congrArg (· + 1) r.length
theorem ItemsAt.get {h : Heap} {k : Str} : ∀ {vs : List Value} {ys : List Str}, ItemsAt h k vs ys → ∀ {i : Nat} {v : Value}, vs[i]? = some v → ∃ y, ys[i]? = some y ∧ ItemAt h k v y
  | _, _, .nil, i, v, e => by simp at e
  | _, _, .cons t _, 0, v, e => by cases e; exact ⟨_, rfl, t⟩
  | _, _, .cons _ r, i + 1, v, e => by
    obtain ⟨y, h1, h2⟩ := r.get (i := i) (v := v) (by simpa using e)
    exact ⟨y, by simpa using h1, h2⟩
example : True := by
 (k_with "call ref" => ((fail_if_success (fail_if_success (have := @on_ci))); ((k_here; (with_reducible refine (?_ : wpAny _ _ (call (Value.ref 295) _) _ _ _)); k_dflt (refine' cat_item_ok ?kC ?kd ?kv ?_; (case kC => k_extra "ktr_rel"); (case kd => k_extra "ktr_unf"); (case kv => first | assumption | exact ItemAt.keeps (Fr.keep (by k_asm)) (by assumption)); k_whole; refine Ret.one (by k_asm) (by k_asm) ?_; intro t9 h9 tk9 F9 N9; (try dsimp only); (try k_fold))))))
 exact True.intro
end
-- part cx
example : True := by
 w_top off
 exact True.intro
namespace T_cx
theorem on_cx : True := True.intro
end T_cx
section
open T_ci T_vec T_lp T_cx T_mem
example : True := by
 (k_with "eval ListComp" => ((fail_if_success (fail_if_success (have := @on_cx))); ((k_here; (with_reducible rename ItemsAt _ _ _ _ => hIt9); k_dflt (refine LCg.ListComp_U (F₀ := by k_asm) (by rfl) (by decide) (by rfl) (by decide) (by rfl) ?_)))))
 exact True.intro
noncomputable abbrev TextsPost (s : Shared) (ys : List Str) (v : Value) (h' : Heap) : Prop := ∃ r zs n, v = .ref r ∧ s.heap.get? r = none ∧ h'.get? r = some (listOf zs.toArray n) ∧ StrsAre zs ys
theorem cat_texts_atom_ok {prog : Program} {w : World} {p : Program} {loose : List Str} {mean : ExcName → Option Value} {mg mb : Str → Option Value} {dp un : Nat} {fs : Option (List Env)} {gd : Option (List Code)} {s : Shared} {Q E : Value → Shared → Prop} {a l : Addr} {k : Str} {vs : List Value} {ys : List Str} {place : Value}
    (C : Site w p loose mean mg mb s.heap) (hd : dp + 13 < recursionLimit) (hu : un + 40 < cLine) (hv : VecAt w s.heap a k l) (hl : s.heap.IsList l vs.toArray) (hi : ItemsAt s.heap k vs ys) (hk : isAtom k = true)
    (hk1 : (k == Str.ofString "NULL") = false) (hk2 : (k == Str.ofString "symbol") = false) (hs : vs.length ≤ 1000)
    (ret : Ret s Q (TextsPost s ys)) : wpAny (model prog w) (At dp un fs gd) (call (.ref 288) [.ref a, place]) Q E s := by
  refine quietly ?_ ?_
  focus
    obtain ⟨X, T⟩ := C
    have hv0 := hv
    have hi2 := hi
    obtain ⟨dx, kt, t1, t2, t3, t4, t5, e1, e2⟩ := hv
    k_extra "kd_adr"
    k_steps
    k_dflt (refine LCg.CompSrc.base (by rfl) (by k_asm) (by k_asm) hl (by rw [List.size_toArray]; exact Nat.le_trans hs (by decide)) ?_)
    intro g
    rw [List.size_toArray]
    refine comp_ind vs.length (fun i zs => StrsAre zs (ys.take i)) .nil (Or.inl hl) ?_ ?_
    · intro i zs v I oI C oC D m₂ h tk E' hin hR hv hC hx F' N' off' ne'
      obtain ⟨y, hy, hA⟩ := hi.get (v := v) (by simpa using hv)
      rw [take_snoc hy]
      (try simp only [LCg.Off3, and_true] at off')
      k_steps
      all_goals first | assumption | exact strsAre_snoc (by assumption)
    · intro zs hR
      rw [hi.length, List.take_length] at hR
      unfold LCg.FinE
      intro D h tk F9 N9 o9
      exact ret_new (s := s) ret F9 N9 fun q1 q2 => ⟨_, _, _, rfl, q1, q2, hR⟩
  intro hf
  simpa only using (ensure_type_of% (quiet_coe hf (0 : Nat) (by exact rfl)) "" hf)
end
-- part cn
example : True := by
 w_top off
 exact True.intro
namespace T_cn
theorem on_cn : True := True.intro
end T_cn
section
open T_cx T_vec T_cn T_mem
noncomputable def NullAt (w : World) (h : Heap) (a : Addr) : Prop := ∃ dx kt t1 t2, h.get? a = some (instObj 201 dx) ∧ h.get? dx = some (dictOf [⟨PyData.keyHash w.params (Str.ofString "kind"), .str (Str.ofString "kind") t1, .str (Str.ofString "NULL") kt⟩, ⟨PyData.keyHash w.params (Str.ofString "attrs"), .str (Str.ofString "attrs") t2, .none⟩] 2)
noncomputable def SymAt (w : World) (h : Heap) (a : Addr) (x : Str) : Prop := ∃ dx kt xt t1 t2 t3, h.get? a = some (instObj 251 dx) ∧ h.get? dx = some (dictOf [⟨PyData.keyHash w.params (Str.ofString "kind"), .str (Str.ofString "kind") t1, .str (Str.ofString "symbol") kt⟩, ⟨PyData.keyHash w.params (Str.ofString "name"), .str (Str.ofString "name") t2, .str x xt⟩, ⟨PyData.keyHash w.params (Str.ofString "attrs"), .str (Str.ofString "attrs") t3, .none⟩] 3)
theorem cat_texts_null_ok {prog : Program} {w : World} {p : Program} {loose : List Str} {mean : ExcName → Option Value} {mg mb : Str → Option Value} {dp un : Nat} {fs : Option (List Env)} {gd : Option (List Code)} {s : Shared} {Q E : Value → Shared → Prop} {a : Addr} {place : Value}
    (C : Site w p loose mean mg mb s.heap) (hd : dp + 1 < recursionLimit) (hv : NullAt w s.heap a)
    (ret : Ret s Q (TextsPost s [])) : wpAny (model prog w) (At dp un fs gd) (call (.ref 288) [.ref a, place]) Q E s := by
  refine quietly ?_ ?_
  focus
    obtain ⟨X, T⟩ := C
    obtain ⟨dx, kt, t1, t2, e1, e2⟩ := hv
    k_extra "kd_adr"
    k_steps
    exact ret_new (s := s) ret (by assumption) (by assumption) fun q1 q2 => ⟨_, _, _, rfl, q1, q2, .nil⟩
  intro hf
  simpa only using (ensure_type_of% (quiet_coe hf (0 : Nat) (by exact rfl)) "" hf)
theorem cat_texts_sym_ok {prog : Program} {w : World} {p : Program} {loose : List Str} {mean : ExcName → Option Value} {mg mb : Str → Option Value} {dp un : Nat} {fs : Option (List Env)} {gd : Option (List Code)} {s : Shared} {Q E : Value → Shared → Prop} {a : Addr} {x : Str} {place : Value}
    (C : Site w p loose mean mg mb s.heap) (hd : dp + 1 < recursionLimit) (hv : SymAt w s.heap a x)
    (ret : Ret s Q (TextsPost s [x])) : wpAny (model prog w) (At dp un fs gd) (call (.ref 288) [.ref a, place]) Q E s := by
  refine quietly ?_ ?_
  focus
    obtain ⟨X, T⟩ := C
    obtain ⟨dx, kt, xt, t1, t2, t3, e1, e2⟩ := hv
    k_extra "kd_adr"
    k_steps
    exact ret_new (s := s) ret (by assumption) (by assumption) fun q1 q2 => ⟨_, _, _, rfl, q1, q2, .cons _ _ .nil⟩
  intro hf
  simpa only using (ensure_type_of% (quiet_coe hf (0 : Nat) (by exact rfl)) "" hf)
end
-- part rx
example : True := by
 w_top off
 exact True.intro
namespace T_rx
theorem on_rx : True := True.intro
end T_rx
section
open T_rx T_mem
noncomputable abbrev excTl : List Value := [.type "Exception", .type "BaseException", .type "object"]
noncomputable abbrev refTl : List Value := .ref 31 :: excTl
section
variable {w : World}
theorem fnd_init : findIn (hd.heap_1_1 w.params) (.ref 51) "__init__" = some (some (.ref 48)) := by kernel_rfl
theorem fnd_msg : findIn (hd.heap_1_1 w.params) (.ref 51) "message" = some none := by kernel_rfl
theorem fnd_sa : findIn (hd.heap_1_1 w.params) (.ref 51) "__setattr__" = some (some (.builtin "object.__setattr__")) := by kernel_rfl
theorem fnd_ga : findIn (hd.heap_1_1 w.params) (.ref 51) "__getattribute__" = some (some (.builtin "BaseException.__getattribute__")) := by kernel_rfl
theorem fnd_gx : findIn (hd.heap_1_1 w.params) (.ref 51) "__getattr__" = some none := by kernel_rfl
theorem nsOk_30 : nsOkIn (hd.heap_1_1 w.params) 30 = true := by kernel_rfl
theorem ns_30 : nsIn (hd.heap_1_1 w.params) 30 "__init__" = some none := by kernel_rfl
theorem ref_cls {h : Heap} (X : (hd.heap_1_1 w.params).In h) : ∃ nm q bs sn sub ab col dd k0 k1 k2 k3 k5, h.get? 51 = some (excClassObj nm q 51 50 bs refTl true sn sub ab col dd k0 k1 k2 k3 k5 "Exception.__new__") :=
  ⟨_, _, _, _, _, _, _, _, _, _, _, _, _, X 51 _ (by rfl)⟩
theorem ref_tail {h : Heap} (X : (hd.heap_1_1 w.params).In h) : OwnTail h excTl refTl :=
  .own (X 31 _ (by rfl)) (.of_isNs (isNs_of_in X nsOk_30)) (nsMap_none_of_in X nsOk_30 ns_30) .base
theorem ref_init {h : Heap} (X : (hd.heap_1_1 w.params).In h) : ∃ o, h.get? 48 = some o ∧ o.cls = .type "function" := ⟨_, X 48 _ (by rfl), rfl⟩
end
section
open Sem (wp)
variable {prog : Program} {w : World} {A : Around} {E : Value → Shared → Prop} {h : Heap} {g : Array GenState} {d : Drawn} {t : Nat} {os : OsState}
theorem type_call_refusal {rest : List Value} {Q : Fin → Shared → Prop} (X : (hd.heap_1_1 w.params).In h)
    (hq : ∀ h' e, Heap.MadeExcOf h h' e (.ref 51) rest →
      wpAny (model prog w) A (call (.ref 48) (.ref e :: rest)) (fun r s' => r = .none ∧ Q (.done (.ret (.ref e))) s') E ⟨h', g, d, t, os⟩) (hrest : rest.length ≤ sizeLine) :
    wpAny (model prog w) A (Builtin.«type.__call__» ⟨.ref 51 :: rest, []⟩) Q E ⟨h, g, d, t, os⟩ := by
  refine quietly ?_ ?_
  focus
    obtain ⟨nm, q, bs, sn, sub, ab, col, dd, k0, k1, k2, k3, k5, hC⟩ := ref_cls X
    have T := ref_tail X
    obtain ⟨oI, hfI, hfc⟩ := ref_init X
    repeat (first | with_reducible refine wpAny_loadPart_at hC ?_ | with_reducible refine wpAny_madeBy_exc hC ?_ | wp_step)
    refine codeAny_call_builtin_code (Code.quiet_builtin _ PySem.F.excBase_Exception.quiet) (wpAny_check_new_subT PySem.F.excBase_Exception T hC ?_)
    refine codeAny_exc_new_subT PySem.F.excBase_Exception T hC ?_ hrest
    show wpAny _ _ _ _ _ _
    have kp : Keeps h ((h.push { cls := .type "tuple", data := .seq rest.toArray }).push { cls := .ref 51, data := .fields #[.ref h.objs.size, .none, .none, .none, .bool false, .none] }) :=
      fun b o hb => Heap.get?_push_of_some _ (Heap.get?_push_of_some _ hb)
    have hC₁ := kp _ _ hC
    have X₁ := X.keeps kp
    have hfI₁ := kp _ _ hfI
    have hget : ((h.push { cls := .type "tuple", data := .seq rest.toArray }).push
        { cls := .ref 51, data := .fields #[.ref h.objs.size, .none, .none, .none, .bool false, .none] }).get? (h.objs.size + 1) = some
        { cls := .ref 51, data := .fields #[.ref h.objs.size, .none, .none, .none, .bool false, .none] } := by heap_get
    have hcC : (Value.ref 51 :: refTl).contains (.ref 51) = true := by rfl
    unfold isInstance
    repeat (first | with_reducible refine wpAny_loadPart_at hget ?_ | (with_reducible refine wpAny_isSubtype_exc hC₁ ?_; rw [hcC]) | wp_step)
    show wpAny _ _ (typeLookup (.ref 51) _) _ _ _
    refine (looks_findIn X₁ fnd_init).here ?_
    refine wpAny_holding (wpAny_bind ?_)
    unfold bindSpecial
    refine wpAny_bind (wpAny_typeOf (T := "function") ⟨_, hfI₁, hfc⟩ ?_)
    rw [if_pos (by decide)]
    refine wpAny_pure (wpAny_bind (wpAny_mono (hq _ (h.objs.size + 1) ⟨kp, Heap.get?_none_of_le (Nat.le_succ _), h.objs.size, hget, Heap.get?_none_of_le (Nat.le_refl _), ?_⟩) (fun r s' hr => ?_) fun _ _ x => x))
    · exact Heap.get?_push_of_some _ (Heap.get?_push_at rfl rfl)
    · obtain ⟨rfl, hQ⟩ := hr
      wp_walk
      exact hQ
  intro hf
  simpa only using (ensure_type_of% (quiet_coe hf (0 : Nat) (by exact rfl)) "" hf)
theorem call_refusal {rest : List Value} {Q : Value → Shared → Prop} (X : (hd.heap_1_1 w.params).In h)
    (hq : ∀ h' e, Heap.MadeExcOf h h' e (.ref 51) rest →
      wpAny (model prog w) (A.under (.builtin "type.__call__" ⟨.ref 51 :: rest, []⟩)) (call (.ref 48) (.ref e :: rest)) (fun r s' => r = .none ∧ Q (.ref e) s') E ⟨h', g, d, t, os⟩) (hrest : rest.length ≤ sizeLine) :
    wpAny (model prog w) A (call (.ref 51) rest) Q E ⟨h, g, d, t, os⟩ := by
  refine quietly ?_ ?_
  focus
    obtain ⟨nm, q, bs, sn, sub, ab, col, dd, k0, k1, k2, k3, k5, hC⟩ := ref_cls X
    have f1 := tc_lookup
    have f2 := tc_bind (.ref 51)
    have hT : (⟨h, g, d, t, os⟩ : Shared).TypeIs (.ref 51) "type" := ⟨_, hC, rfl⟩
    refine wpAny_call (codeAny_of_tree ?_)
    show wpAny _ _ (callAny (.ref 51) _) _ _ _
    repeat (any_goals (first | assumption | with_reducible refine wpAny_loadPart_at hC ?_ | wp_step))
    refine ⟨rfl, ?_⟩
    refine codeAny_call_builtin_at (Code.quiet_builtin _ (by decide +kernel)) entry_typeCall (wpAny_check_type_call_sub hC (type_call_refusal X (fun h' e hm => ?_) hrest))
    exact hq h' e hm
  intro hf
  simpa only using (ensure_type_of% (quiet_coe hf (0 : Nat) (by exact rfl)) "" hf)
noncomputable def msgMap (v : Value) : Str → Option Value := fun y => if y = "message" then some v else none
theorem store_in_new {M : Model} {h₁ : Heap} {a : Addr} {tk : Tok} {v : Value} {Q : Fin → Shared → Prop} (hn : h₁.Ns a (fun _ => none))
    (hq : ∀ h' tk', h'.Ns a (msgMap v) → Heap.SameBut a h₁ h' → Q (.done (.ret .none)) ⟨h', g, d, tk', os⟩) : wpAny M A (Builtin.ObjectAttr.storeInDict a (.str "message" tk) "message" v) Q E ⟨h₁, g, d, t, os⟩ := by
  unfold Builtin.ObjectAttr.storeInDict Builtin.ObjectAttr.newKeyGuard
  refine wpAny_bind (wpAny_pure (wpAny_bind (wpAny_nsSet1 (Heap.Ns1.of_empty hn) fun h' hn' hs => ?_)))
  obtain ⟨oD, esD, epD, hoD, hdD, hcD⟩ := hn'.count (Within.cons "message" v Within.nil)
  refine wpAny_bind (wpAny_lookBehind hoD (by rw [hdD]; exact pastItsLine_dict (Nat.le_trans hcD (by rw [List.length_cons, List.length_nil, sizeLine_eq]; omega))) ?_)
  wp_walk
  exact hq _ _ hn'.ns hs
theorem store_entry_ref {tk : Tok} {x : Addr} {v : Value} {vs : Array Value} {Q : Fin → Shared → Prop} (X : (hd.heap_1_1 w.params).In h) (hx : h.get? x = some ⟨.ref 51, none, .fields vs, #[]⟩)
    (hq : ∀ h' tk', h'.get? x = some ⟨.ref 51, some h.objs.size, .fields vs, #[]⟩ → h'.Ns h.objs.size (msgMap v) → (∀ b o, b ≠ x → h.get? b = some o → h'.get? b = some o) → Q (.done (.ret .none)) ⟨h', g, d, tk', os⟩) :
    wpAny (model prog w) A (Builtin.«object.__setattr__» ⟨[.ref x, .str "message" tk, v], []⟩) Q E ⟨h, g, d, t, os⟩ := by
  obtain ⟨nm, q, bs, sn, sub, ab, col, dd, k0, k1, k2, k3, k5, hC⟩ := ref_cls X
  have hpass := PySem.F.store_Exception.passes (.ref x)
  have hx₁ : (h.push { cls := .type "dict", data := .dict #[] }).get? x = some ⟨.ref 51, none, .fields vs, #[]⟩ := Heap.get?_push_of_some _ hx
  have hxs : x ≠ h.objs.size := Nat.ne_of_lt (Heap.lt_size hx)
  have hgd : ((h.push { cls := .type "dict", data := .dict #[] }).update x fun o => { cls := o.cls, dict := some h.objs.size, data := o.data, slots := o.slots }).get? h.objs.size = some { cls := .type "dict", data := .dict #[] } :=
    (Heap.get?_update_ne _ _ _ _ hxs.symm).trans (Heap.get?_push_at rfl rfl)
  have hnd : ((h.push { cls := .type "dict", data := .dict #[] }).update x fun o => { cls := o.cls, dict := some h.objs.size, data := o.data, slots := o.slots }).Ns h.objs.size (fun _ => none) :=
    ⟨_, #[], _, hgd, rfl, fun e he => absurd he (by simp), fun _ => rfl⟩
  unfold Builtin.«object.__setattr__»
  repeat (first | (refine store_in_new hnd ?_) | rw [PySem.refuse_eq] | (rw [PySem.refuseLoop_ref, PySem.refuseLoop_ref, hpass]) | with_reducible refine wpAny_loadPart_at hx ?_ | with_reducible refine wpAny_mroOf_exc hC ?_ | with_reducible refine (looks_findIn (K := hd.heap_1_1 w.params) (by assumption) fnd_msg).here ?_ | wp_step)
  intro h' tk' hn' hs
  refine hq h' _ ((hs.2 x hxs).trans (Heap.get?_update_self _ hx₁ rfl)) hn' fun b o hbx hb => ?_
  exact (hs.2 b (Nat.ne_of_lt (Heap.lt_size hb))).trans ((Heap.get?_update_ne _ _ _ _ hbx).trans (Heap.get?_push_of_some _ hb))
theorem check_sa_ref {M : Model} {x : Addr} {o : Obj} {nameV v : Value} {Q : Unit → Shared → Prop} (X : (hd.heap_1_1 w.params).In h) (hx : h.get? x = some o) (hc : o.cls = .ref 51) (hq : Q () ⟨h, g, d, t, os⟩) :
    wpAny M A (checkBuiltinCall "object.__setattr__" ⟨[.ref x, nameV, v], []⟩) Q E ⟨h, g, d, t, os⟩ := by
  obtain ⟨nm, q, bs, sn, sub, ab, col, dd, k0, k1, k2, k3, k5, hC⟩ := ref_cls X
  have hcB : (Value.ref 51 :: refTl).contains (.type "object") = true := by rfl
  simp only [checkBuiltinCall, PySem.F.store_Exception.kind, PySem.F.store_Exception.split]
  refine wpAny_bind ?_
  unfold isInstance
  repeat (first | (with_reducible refine wpAny_loadPart_at hx ?_; rw [hc]) | (with_reducible refine wpAny_isSubtype_exc hC ?_; rw [hcB]) | wp_step)
  exact hq
theorem store_ref {x : Addr} {v : Value} {vs : Array Value} {Q : Unit → Shared → Prop} (X : (hd.heap_1_1 w.params).In h) (hx : h.get? x = some ⟨.ref 51, none, .fields vs, #[]⟩)
    (hq : ∀ h' tk', h'.get? x = some ⟨.ref 51, some h.objs.size, .fields vs, #[]⟩ → h'.Ns h.objs.size (msgMap v) → (∀ b o, b ≠ x → h.get? b = some o → h'.get? b = some o) → Q () ⟨h', g, d, tk', os⟩) :
    wpAny (model prog w) A (setAttr (.ref x) "message" v) Q E ⟨h, g, d, t, os⟩ := by
  refine quietly ?_ ?_
  focus
    obtain ⟨nm, q, bs, sn, sub, ab, col, dd, k0, k1, k2, k3, k5, hC⟩ := ref_cls X
    have f3 := PySem.F.store_Exception.slot.bind (.ref x)
    unfold setAttr callSpecial? specialOf
    repeat (any_goals (first | assumption | with_reducible refine wpAny_loadPart_at hx ?_ | with_reducible refine (looks_findIn (K := hd.heap_1_1 w.params) (by assumption) fnd_sa).here ?_ | wp_step))
    refine codeAny_call_builtin PySem.F.store_Exception.slot.plain PySem.F.store_Exception.entry (check_sa_ref X hx rfl (store_entry_ref X hx fun h' tk' e1 e2 e3 => ?_))
    repeat (any_goals (first | assumption | wp_step))
    exact hq h' tk' e1 e2 e3
  intro hf
  simpa only using (ensure_type_of% (quiet_coe hf (0 : Nat) (by exact rfl)) "" hf)
theorem load_entry_ref {tk : Tok} {x dx : Addr} {v : Value} {o : Obj} {vs : Array Value} {Q : Fin → Shared → Prop} (X : (hd.heap_1_1 w.params).In h) (hx : h.get? x = some o) (hc : o.cls = .ref 51) (hda : o.data = .fields vs) (hdx : o.dict = some dx)
    (hn : h.Ns dx (msgMap v)) (hq : Q (.done (.ret v)) ⟨h, g, d, t, os⟩) :
    wpAny (model prog w) A (Builtin.«object.__getattribute__» ⟨[.ref x, .str "message" tk], []⟩) Q E ⟨h, g, d, t, os⟩ := by
  obtain ⟨nm, q, bs, sn, sub, ab, col, dd, k0, k1, k2, k3, k5, hC⟩ := ref_cls X
  have hv : msgMap v "message" = some v := rfl
  unfold Builtin.«object.__getattribute__»
  repeat (any_goals (first | assumption | (with_reducible refine wpAny_loadPart_at hx ?_; rw [hc]) | with_reducible refine (looks_findIn (K := hd.heap_1_1 w.params) (by assumption) fnd_msg).here ?_ | (with_reducible refine wpAny_nsGet hn ?_; rw [hv]) | wp_step))
  rw [hda]
  show wpAny _ _ (instanceDict x false) _ _ _
  unfold instanceDict
  repeat (any_goals (first | assumption | (with_reducible refine wpAny_loadPart_at hx ?_; first | rw [hc] | rw [hdx]) | with_reducible refine wpAny_loadPart_at hC ?_ | (with_reducible refine wpAny_nsGet hn ?_; rw [hv]) | wp_step))
  rw [hdx]
  repeat (any_goals (first | assumption | (with_reducible refine wpAny_nsGet hn ?_; rw [hv]) | wp_step))
theorem check_ga_ref {M : Model} {x : Addr} {o : Obj} {nameV : Value} {Q : Unit → Shared → Prop} (X : (hd.heap_1_1 w.params).In h) (hx : h.get? x = some o) (hc : o.cls = .ref 51) (hq : Q () ⟨h, g, d, t, os⟩) :
    wpAny M A (checkBuiltinCall "BaseException.__getattribute__" ⟨[.ref x, nameV], []⟩) Q E ⟨h, g, d, t, os⟩ := by
  obtain ⟨nm, q, bs, sn, sub, ab, col, dd, k0, k1, k2, k3, k5, hC⟩ := ref_cls X
  have hk : builtinKind "BaseException.__getattribute__" = some .slot := by decide +kernel
  have hsplit : splitId "BaseException.__getattribute__" = some ("BaseException", "__getattribute__") := by decide +kernel
  have hcB : (Value.ref 51 :: refTl).contains (.type "BaseException") = true := by rfl
  have ha := PySem.F.args_bexc_ga (.ref x) nameV
  simp only [checkBuiltinCall, hk, hsplit]
  refine wpAny_bind ?_
  unfold isInstance
  repeat (first | (with_reducible refine wpAny_loadPart_at hx ?_; rw [hc]) | (with_reducible refine wpAny_isSubtype_exc hC ?_; rw [hcB]) | wp_step)
  exact hq
theorem load_ref {expr : Bool} {x dx : Addr} {v : Value} {o : Obj} {vs : Array Value} {Q : Value → Shared → Prop} (X : (hd.heap_1_1 w.params).In h) (hx : h.get? x = some o) (hc : o.cls = .ref 51) (hda : o.data = .fields vs) (hdx : o.dict = some dx)
    (hn : h.Ns dx (msgMap v)) (hh : handedOut v = pure v) (hq : Q v ⟨h, g, d, t + 1, os⟩) : wpAny (model prog w) A (getAttr (.ref x) "message" expr) Q E ⟨h, g, d, t, os⟩ := by
  refine quietly ?_ ?_
  focus
    have f3 := PySem.F.attr_Exception.ga.bind (.ref x)
    have hx0 : (expr && onTheHeap (Value.builtin "BaseException.__getattribute__")) = false := by cases expr <;> rfl
    have hx2 : (Value.builtin "BaseException.__getattribute__" == Value.builtin "object.__getattribute__") = false := by decide +kernel
    have hx1 : (onTheHeap (Value.ref 51) && Value.builtin "BaseException.__getattribute__" == Value.builtin "object.__getattribute__") = false := by rw [hx2]; rfl
    unfold getAttr getAttrBy
    repeat (any_goals (first | assumption | (with_reducible refine wpAny_loadPart_at hx ?_; rw [hc]) | with_reducible refine (looks_findIn (K := hd.heap_1_1 w.params) (by assumption) fnd_ga).here ?_ | with_reducible refine (looks_findIn (K := hd.heap_1_1 w.params) (by assumption) fnd_gx).here ?_ | wp_step))
    refine codeAny_call_builtin PySem.F.attr_Exception.ga.plain PySem.F.entry_bexc_ga (check_ga_ref X hx hc (load_entry_ref X hx hc hda hdx hn ?_))
    repeat (any_goals (first | assumption | wp_step))
  intro hf
  simpa only using (ensure_type_of% (quiet_coe hf (0 : Nat) (by exact rfl)) "" hf)
end
noncomputable abbrev excObj (t : Addr) : Obj := ⟨.ref 51, none, .fields #[.ref t, .none, .none, .none, .bool false, .none], #[]⟩
noncomputable abbrev excObjD (t d : Addr) : Obj := ⟨.ref 51, some d, .fields #[.ref t, .none, .none, .none, .bool false, .none], #[]⟩
section
variable {prog : Program} {w : World} {p : Program} {loose : List Str} {mean : ExcName → Option Value} {mg mb : Str → Option Value} {dp un : Nat} {fs : Option (List Env)} {gd : Option (List Code)} {s : Shared} {Q E : Value → Shared → Prop}
theorem init_ok {A : Around} {e t : Addr} {v : Value} (C : SiteN w p loose mean mg mb s.heap [e]) (hdp : A.depth < recursionLimit) (he : s.heap.get? e = some (excObj t))
    (ret : ∀ h' tk' dx, h'.get? e = some (excObjD t dx) → h'.Ns dx (msgMap v) → s.heap.get? dx = none → (∀ b o, b ≠ e → s.heap.get? b = some o → h'.get? b = some o) → Q .none { s with heap := h', toks := tk' }) :
    wpAny (model prog w) A (call (.ref 48) [.ref e, v]) Q E s := by
  refine quietly ?_ ?_
  focus
    have C' : SiteN w p loose mean mg mb s.heap (([(e, excObj t)] : List (Addr × Obj)).map (·.1)) := C
    clear C
    have hn : ∀ q ∈ [(e, excObj t)], s.heap.get? q.1 = some q.2 := fun q hq => by
      obtain rfl := List.mem_singleton.mp hq
      exact he
    k_extra "kwd_inv"
    k_steps
    refine store_ref (x := e) (vs := #[.ref t, .none, .none, .none, .bool false, .none]) (Frag.In.keeps (by k_asm) (Fr.keep (by k_asm))) (News.get (by k_asm) (by k_mem)) ?_
    intro h' tk' e1 e2 e3
    k_steps
    subst hg₁
    have kp : Keeps s.heap h₁ := hide_back (news := [(e, excObj t)]) F₁.keep hn fun q hq => (N₁ q hq).1
    refine ret h' _ h₁.objs.size e1 e2 ?_ fun b o hb ho => e3 b o hb (kp b o ho)
    cases q : s.heap.get? h₁.objs.size with
    | none => rfl
    | some o => exact absurd (Heap.lt_size (kp _ _ q)) (Nat.lt_irrefl _)
  intro hf
  simpa only using (ensure_type_of% (quiet_coe hf (0 : Nat) (by exact rfl)) "" hf)
theorem site_n {s : Shared} {h' : Heap} {e : Addr} (C : Site w p loose mean mg mb s.heap) (k : Keeps s.heap h') (n : s.heap.get? e = none) : SiteN w p loose mean mg mb h' [e] :=
  ⟨s.heap, C, k, fun a ha => by obtain rfl := List.mem_singleton.mp ha; exact n⟩
theorem made_refusal {A : Around} {v : Value} (C : Site w p loose mean mg mb s.heap) (hdp : A.depth + 2 < recursionLimit)
    (ret : ∀ h' tk' e t dx, h'.get? e = some (excObjD t dx) → h'.Ns dx (msgMap v) → s.heap.get? dx = none → s.heap.get? e = none → dx ≠ e → Keeps s.heap h' → Q (.ref e) { s with heap := h', toks := tk' }) :
    wpAny (model prog w) A (call (.ref 51) [v]) Q E s := by
  refine call_refusal (h := s.heap) C.X (fun h' e hm => ?_) (by rw [sizeLine_eq]; simp)
  obtain ⟨t, he, htn, ht⟩ := hm.there
  refine init_ok (s := ⟨h', s.gens, s.drawn, s.toks, s.os⟩) (site_n C hm.keeps hm.new) ?_ he fun h'' tk' dx e1 e2 e3 e4 => ⟨rfl, ?_⟩
  · simp only [depth_under_make]; omega
  · have hde : dx ≠ e := fun q => by subst q; rw [he] at e3; cases e3
    refine ret h'' tk' e t dx e1 e2 ?_ hm.new hde fun b o hb => e4 b o (fun q => ?_) (hm.keeps b o hb)
    · cases q : s.heap.get? dx with
      | none => rfl
      | some o => rw [hm.keeps _ _ q] at e3; cases e3
    · subst q; rw [hm.new] at hb; cases hb
end
end
-- part ry
example : True := by
 w_top off
 exact True.intro
namespace T_ry
theorem on_ry : True := True.intro
end T_ry
section
open T_rx T_ry T_mem
noncomputable def Free (e d : Addr) (h : Heap) : Prop := ∃ oe vs, h.get? e = some oe ∧ oe.cls = .ref 51 ∧ oe.dict = some d ∧ oe.data = .fields vs ∧ vs[1]? = some .none
noncomputable def Bound (B : Heap) (e d : Addr) (fl : Value) (h : Heap) : Prop :=
  ∃ oe vs T oT ts, h.get? e = some oe ∧ oe.cls = .ref 51 ∧ oe.dict = some d ∧ oe.data = .fields vs ∧ vs[1]? = some (.ref T) ∧ B.get? T = none ∧ T ≠ e ∧ h.get? T = some oT ∧ oT.data = .fields ts ∧ ts[3]? = some fl
theorem Obj.dict_mapFields {o : Obj} {f : Array Value → Array Value} : (PySem.Obj.mapFields f o).dict = o.dict := by
  obtain ⟨_, _, dt, _⟩ := o
  cases dt <;> rfl
section
variable {M : Model} {A : Around} {E : Value → Shared → Prop} {s : Shared}
theorem entry_way {B : Heap} {env : Env} {outer : List Env} {L e d : Addr} {oe : Obj} {vs : Array Value} {head : Value} {hadNext : Bool} {Q : Unit → Shared → Prop}
    (hfr : A.frames = some (env :: outer)) (hl : s.heap.FunFrames B (env :: outer)) (hf : env.frame = some L)
    (he : s.heap.get? e = some oe) (hB : B.StaysIn s.heap) (hen : B.get? e = none) (hda : oe.data = .fields vs) (hsz : 1 < vs.size) (hc : oe.cls = .ref 51) (hdx : oe.dict = some d)
    (h : ∀ h', B.StaysIn h' → h'.FunFrames B (env :: outer) → Bound B e d (rawInt L) h' → s.heap.UpToSlots h' → Q () { s with heap := h' }) :
    wpAny M A (do let a ← frameOf env; let pl ← entryPlaceOf L hadNext; let b ← EntryCells.newEntry head a .none (rawInt L) .none pl; setField (.ref e) 1 b) Q E s := by
  have hene : e ∉ (env :: outer).filterMap (·.frame) := fun hm => by
    obtain ⟨_, o, ho, hnf⟩ := hl.mem hm
    rw [he] at ho
    cases ho
    exact hnf vs hda
  refine wpAny_bind (wpAny_frameOf_fun hfr hl hf fun h₁ hs₁ => ?_)
  refine wpAny_bind (wpAny_entryPlaceOf fun pl hpl => ?_)
  unfold EntryCells.newEntry newFields
  refine wpAny_bind (wpAny_newObj_type ?_ (hpl.sizeOk5 _ _ _ _ _))
  have he₁ : h₁.get? e = some oe := (hs₁.2.1 e hene).trans he
  have kb₁ : B.StaysIn h₁ := fun b o hbo => (hs₁.2.1 b fun hm => by rw [(hl.mem hm).1] at hbo; cases hbo).trans (hB b o hbo)
  generalize hne : ({ cls := .type "traceback", dict := none, data := .fields ([head, .ref L, .none, rawInt L, .none] ++ (if pl.isEmpty then List.replicate 6 Value.none else pl)).toArray } : Obj) = new
  have he₂ := Heap.get?_push_of_some (h := h₁) new he₁
  refine wpAny_setField he₂ hda hsz ?_
  have hTe : h₁.objs.size ≠ e := Nat.ne_of_gt (Heap.lt_size he₁)
  have hd₃ := Obj.data_mapFields hda (·.setIfInBounds 1 (Value.ref h₁.objs.size))
  have he₃ := Heap.get?_update_self (Obj.mapFields (·.setIfInBounds 1 (Value.ref h₁.objs.size))) he₂ (Obj.isFreed_of_fields hd₃)
  have hnew : (h₁.push new).get? h₁.objs.size = some new := Heap.get?_push_size h₁ (by rw [← hne]; rfl)
  have hT₃ := (Heap.get?_update_other (h₁.push new) (Obj.mapFields (·.setIfInBounds 1 (Value.ref h₁.objs.size))) (Ne.symm hTe)).trans hnew
  have keep : ∀ b o, b ≠ e → h₁.get? b = some o → ((h₁.push new).update e (Obj.mapFields (·.setIfInBounds 1 (Value.ref h₁.objs.size)))).get? b = some o := fun b o hbe hb => by
    rw [Heap.get?_update_other _ _ (Ne.symm hbe)]
    exact Heap.get?_push_of_some _ hb
  have noRecord : ∀ b o, s.heap.get? b = some o → (∀ vs, o.data ≠ .fields vs) → b ≠ e := fun b o hb hnf q => by
    rw [q, he] at hb
    cases hb
    exact hnf vs hda
  have ups : s.heap.UpToSlots ((h₁.push new).update e (Obj.mapFields (·.setIfInBounds 1 (Value.ref h₁.objs.size)))) := fun b o hb hnf => by
    obtain ⟨sl, hs⟩ := hs₁.2.2 b o hb
    exact ⟨sl, keep b _ (noRecord b o hb hnf) hs⟩
  refine h _ (fun b o hbo => keep b o (fun q => by rw [q, hen] at hbo; cases hbo) (kb₁ b o hbo)) (hl.of_keeps fun b o hb hnf => ?_) ?_ ups
  · obtain ⟨sl, hs⟩ := ups b o hb hnf
    exact ⟨_, hs, rfl⟩
  · refine ⟨_, _, h₁.objs.size, new, _, he₃, (Obj.cls_mapFields _ _).trans hc, Obj.dict_mapFields.trans hdx, hd₃, by simp [hsz], kb₁.fresh, hTe, hT₃, by rw [← hne], ?_⟩
    first | (simp; done) | (rcases hpl with rfl | ⟨_, _, _, _, _, _, _, rfl⟩ <;> simp)
theorem note_way {B : Heap} {env : Env} {outer : List Env} {L e d : Addr} {Q : Unit → Shared → Prop}
    (hfr : A.frames = some (env :: outer)) (hf : env.frame = some L) (hB : B.StaysIn s.heap) (hen : B.get? e = none) (hl : s.heap.FunFrames B (env :: outer)) (W : Free e d s.heap ∨ Bound B e d .none s.heap)
    (h : ∀ h', B.StaysIn h' → h'.FunFrames B (env :: outer) → Bound B e d (rawInt L) h' → s.heap.UpToSlots h' → Q () { s with heap := h' }) : wpAny M A (noteFrame (.ref e) env) Q E s := by
  rcases W with ⟨oe, vs, he, hc, hdx, hda, h1⟩ | ⟨oe, vs, T, oT, ts, he, hc, hdx, hda, h1, hnT, hTe, hT, hdT, h3⟩
  · unfold noteFrame
    simp only [hf]
    refine wpAny_bind (wpAny_field he hda h1 ?_)
    rw [if_neg (by decide)]
    exact entry_way hfr hl hf he hB hen hda (Array.getElem?_eq_some_iff.mp h1).1 hc hdx h
  · unfold noteFrame
    simp only [hf]
    refine wpAny_bind (wpAny_field he hda h1 ?_)
    rw [if_pos (show (Value.ref T != Value.none) = true from by simp)]
    refine wpAny_bind (wpAny_field hT hdT h3 ?_)
    rw [if_neg (show ¬ ((Value.none == rawInt L) = true) from by simp [rawInt])]
    refine wpAny_bind (wpAny_setField hT hdT (Array.getElem?_eq_some_iff.mp h3).1 ?_)
    have other : ∀ b, b ≠ T → (s.heap.update T (Obj.mapFields (·.setIfInBounds 3 Value.none))).get? b = s.heap.get? b := fun b hb => Heap.get?_update_other _ _ (Ne.symm hb)
    have noRecord : ∀ b o, s.heap.get? b = some o → (∀ vs, o.data ≠ .fields vs) → b ≠ T := fun b o hb hnf q => by
      rw [q, hT] at hb
      cases hb
      exact hnf ts hdT
    refine entry_way hfr (hl.of_keeps fun b o hb hnf => ⟨o, (other b (noRecord b o hb hnf)).trans hb, rfl⟩) hf ((other e (Ne.symm hTe)).trans he)
      (fun b o hbo => (other b fun q => by rw [q, hnT] at hbo; cases hbo).trans (hB b o hbo)) hen hda (Array.getElem?_eq_some_iff.mp h1).1 hc hdx
      fun h' x1 x2 x3 x4 => h h' x1 x2 x3 fun b o hb hnf => x4 b o ((other b (noRecord b o hb hnf)).trans hb) hnf
theorem flight_way {B : Heap} {l : List Env} {e d : Addr} {fl : Value} {Q : Unit → Shared → Prop} (hB : B.StaysIn s.heap) (hl : s.heap.FunFrames B l) (W : Bound B e d fl s.heap)
    (h : ∀ h', B.StaysIn h' → h'.FunFrames B l → Bound B e d .none h' → s.heap.UpToSlots h' → Q () { s with heap := h' }) : wpAny M A (setFlight (.ref e) none) Q E s := by
  obtain ⟨oe, vs, T, oT, ts, he, hc, hdx, hda, h1, hnT, hTe, hT, hdT, h3⟩ := W
  have hsz3 : 3 < ts.size := (Array.getElem?_eq_some_iff.mp h3).1
  have other : ∀ b, b ≠ T → (s.heap.update T (Obj.mapFields (·.setIfInBounds 3 ((none : Option Addr).elim Value.none fun f => rawInt f)))).get? b = s.heap.get? b := fun b hb => Heap.get?_update_other _ _ (Ne.symm hb)
  have noRecord : ∀ b o, s.heap.get? b = some o → (∀ vs, o.data ≠ .fields vs) → b ≠ T := fun b o hb hnf q => by
    rw [q, hT] at hb
    cases hb
    exact hnf ts hdT
  unfold setFlight
  refine wpAny_bind (wpAny_field he hda h1 ?_)
  rw [if_pos (show (Value.ref T != Value.none) = true from by simp)]
  refine wpAny_setField hT hdT hsz3 (h _ (fun b o hbo => (other b fun q => by rw [q, hnT] at hbo; cases hbo).trans (hB b o hbo))
    (hl.of_keeps fun b o hb hnf => ⟨o, (other b (noRecord b o hb hnf)).trans hb, rfl⟩) ?_ fun b o hb hnf => ⟨o.slots, (other b (noRecord b o hb hnf)).trans hb⟩)
  exact ⟨oe, vs, T, _, _, (other e (Ne.symm hTe)).trans he, hc, hdx, hda, h1, hnT, hTe, Heap.get?_update_self _ hT (Obj.isFreed_of_fields (Obj.data_mapFields hdT _)), Obj.data_mapFields hdT _, by simp [hsz3]⟩
noncomputable def Hurled (G : Heap) (l : List Env) (e d : Addr) (v : Value) (h : Heap) : Prop :=
  ∃ B, (∀ b o, G.get? b = some o → b ∉ l.filterMap (·.frame) → B.get? b = some o) ∧ B.StaysIn h ∧ B.get? e = none ∧ h.FunFrames B l ∧ B.Ns d (msgMap v) ∧ G.get? e = none ∧ G.get? d = none ∧ (Free e d h ∨ Bound B e d .none h)
theorem kts_mem' {env : Env} {outer : List Env} {L b : Addr} (hf : env.frame = some L) (hm : b ∈ (env :: outer).filterMap (·.frame)) : b = L ∨ b ∈ outer.filterMap (·.frame) := by
  rw [List.filterMap_cons, hf] at hm
  exact List.mem_cons.mp hm
theorem push_env {base g h : Heap} {outer : List Env} {L : Addr} {m : Str → Option Value} {env : Env} (K : Below A base outer g) (F : Fr g L h m) (hf : env.frame = some L) (hk : env.scope.kind = .function) : Below (A.deeper env) base (env :: outer) h := by
  have hnew : base.get? L = none := by
    cases hq : base.get? L with
    | none => rfl
    | some o => exact absurd (Nat.lt_of_lt_of_le (Heap.lt_size (K.stays L o hq)) F.above) (Nat.lt_irrefl _)
  refine ⟨Around.frames_deeper K.stack, fun b o e => F.keep b o (K.stays b o e), ?_⟩
  exact .cons (by rw [hk]; decide) hf F.ns hnew (K.frames.of_keeps fun b o e _ => ⟨o, F.keep b o e, rfl⟩)
theorem leave_hurled {base g h : Heap} {outer : List Env} {L e d : Addr} {m : Str → Option Value} {env : Env} {v : Value} {Q : Unit → Shared → Prop}
    (K : Below A base outer g) (F : Fr g L h m) (R : Hurled h (env :: outer) e d v s.heap) (u : h.UpToSlots s.heap) (hf : env.frame = some L)
    (hQ : ∀ h', Hurled g outer e d v h' → g.UpToSlots h' → Q () { s with heap := h' }) :
    wpAny M (A.deeper env) (leaving env (.ref e)) Q E s := by
  obtain ⟨B, hG, hB, hen, hl, hn, ne, nd, W⟩ := R
  unfold leaving
  refine wpAny_bind (note_way (Around.frames_deeper K.stack) hf hB hen hl W fun h₁ b1 l1 w1 u1 => ?_)
  refine flight_way b1 l1 w1 fun h₂ b2 l2 w2 u2 => hQ h₂ ⟨B, fun b o hb hm => hG b o (F.keep b o hb) fun q => ?_, b2, hen, l2.2.2, hn, ?_, ?_, .inr w2⟩ ?_
  · rcases kts_mem' hf q with z | z
    · rw [z, kts_self F] at hb; cases hb
    · exact hm z
  · exact kts_none F.keep ne
  · exact kts_none F.keep nd
  · exact (Heap.UpToSlots.of_keeps F.keep).trans (u.trans (u1.trans u2))
end
end
-- part rz
example : True := by
 w_top off
 exact True.intro
namespace T_rz
theorem on_rz : True := True.intro
end T_rz
section
open T_rx T_ry T_rz T_mem
theorem ref_name {w : World} : nsIn (hd.heap_1_1 w.params) mainGlobals "Refusal" = some (some (.ref 51)) := by kernel_rfl
section
variable {prog : Program} {w : World} {A : Around} {E : Value → Shared → Prop} {s : Shared} {env : Env}
theorem raiseStmt_ref {x : Sem Value} {Q : Flow → Shared → Prop} (hh : A.handled = none)
    (h : wpAny (model prog w) A x (fun v s₁ => ∃ e t d, v = .ref e ∧ (hd.heap_1_1 w.params).In s₁.heap ∧ s₁.heap.get? e = some (excObjD t d) ∧ E (.ref e) s₁) E s) :
    wpAny (model prog w) A (raiseStmt env (some x) none) Q E s := by
  have hcB : (Value.ref 51 :: refTl).contains (.type "BaseException") = true := by rfl
  unfold raiseStmt
  refine wpAny_bind (wpAny_mono h (fun v s₁ h₁ => ?_) fun _ _ x => x)
  obtain ⟨e, t, d', rfl, X, he, hE⟩ := h₁
  obtain ⟨nm, q, bs, sn, sub, ab, col, dd, k0, k1, k2, k3, k5, hC⟩ := ref_cls X
  obtain ⟨hp, g, d, tk, os⟩ := s₁
  repeat (first | with_reducible refine wpAny_loadPart_at he ?_ | with_reducible refine wpAny_loadPart_at hC ?_ | (with_reducible refine wpAny_isSubtype_exc hC ?_; rw [hcB]) | wp_step)
  exact wpAny_raiseNew_none hh hE
theorem Raise_ref {x : Str} {np cpos pos : Pos} {args : List Expr} {Q : Flow → Shared → Prop} (hh : A.handled = none) (hplain : (backTo cpos (starEach args env)).any (·.1) = false)
    (h : wpAny (model prog w) A (eval (.Name x np) env) (fun f s₁ => f = .ref 51 ∧ wpAny (model prog w) A (evalArgs (.ref 51) true (backTo cpos (starEach args env)) [])
      (fun a s₂ => a.kw = [] ∧ (hd.heap_1_1 w.params).In s₂.heap ∧ wpAny (model prog w) A (call (.ref 51) a.pos) (fun v s₃ => ∃ e t d, v = .ref e ∧ (hd.heap_1_1 w.params).In s₃.heap ∧ s₃.heap.get? e = some (excObjD t d) ∧ E (.ref e) s₃) E s₂) E s₁) E s) :
    wpAny (model prog w) A (exec (.Raise (some (.Call (.Name x np) args [] cpos)) none pos) env) Q E s := by
  rw [arm_exec_Raise]
  first
    | refine wpAny_bind (wpAny_standAt (raiseStmt_ref hh (wpAny_bind (wpAny_mono (wpAny_Call_ofName (wpAny_mono h (fun f s₁ h₁ => ?_) fun _ _ x => x)) (fun v s₃ h₃ => wpAny_bind (wpAny_standAt (wpAny_pure h₃))) fun _ _ x => x))))
    | (simp only [evalOpt, Option.map]; refine wpAny_bind (wpAny_standAt (raiseStmt_ref hh (wpAny_bind (wpAny_mono (wpAny_Call_ofName (wpAny_mono h (fun f s₁ h₁ => ?_) fun _ _ x => x)) (fun v s₃ h₃ => wpAny_bind (wpAny_standAt (wpAny_pure h₃))) fun _ _ x => x)))))
    | (refine wpAny_bind (wpAny_standAt (raiseStmt_ref hh ?_)); refine wpAny_bind (wpAny_mono (wpAny_Call_ofName (wpAny_mono h (fun f s₁ h₁ => ?_) fun _ _ x => x)) (fun v s₃ h₃ => wpAny_bind (wpAny_standAt (wpAny_pure h₃))) fun _ _ x => x))
  obtain ⟨rfl, h₁⟩ := h₁
  unfold callWith
  refine wpAny_bind (wpAny_holding (wpAny_mono h₁ (fun a s₂ h₂ => wpAny_bind (wpAny_standAt ?_)) fun _ _ x => x))
  obtain ⟨apos, akw⟩ := a
  obtain ⟨hkw, X, h₂⟩ := h₂
  obtain rfl : akw = [] := hkw
  obtain ⟨nm, q, bs, sn, sub, ab, col, dd, k0, k1, k2, k3, k5, hC⟩ := ref_cls X
  obtain ⟨hp, g, d, tk, os⟩ := s₂
  simp only [hplain]
  refine wpAny_bind (wpAny_keeperOf_exc hC ?_)
  refine wpAny_bind (wpAny_mono h₂ (fun v s₃ h₃ => wpAny_bind (wpAny_holding (wpAny_point (wpAny_pure h₃)))) fun _ _ x => x)
end
section
variable {prog : Program} {w : World} {p : Program} {loose : List Str} {mean : ExcName → Option Value} {mg mb : Str → Option Value} {s : Shared} {A₀ : Around} {base g : Heap} {outer : List Env} {L : Addr} {m : Str → Option Value} {env : Env}
theorem ns_hide {h : Heap} {as : List Addr} {d : Addr} {m : Str → Option Value} (hn : h.Ns d m) (n : d ∉ as) : (hideAll h as).Ns d m := by
  obtain ⟨o, es, ep, e, r⟩ := hn
  exact ⟨o, es, ep, hideAll_get _ e n, r⟩
theorem hurled_new {h₂ h₃ : Heap} {e t dx : Addr} {v : Value} (K : Below A₀ base outer g) (F : Fr g L h₂ m) (e1 : h₃.get? e = some (excObjD t dx)) (e2 : h₃.Ns dx (msgMap v)) (e3 : h₂.get? dx = none) (e4 : h₂.get? e = none) (e5 : dx ≠ e) (kp : Keeps h₂ h₃)
    (hf : env.frame = some L) (hk : env.scope.kind = .function) : Hurled h₂ (env :: outer) e dx v h₃ := by
  have K' := push_env K F hf hk
  have fr : ∀ b ∈ (env :: outer).filterMap (·.frame), ∃ o, h₂.get? b = some o := fun b hb => by
    obtain ⟨_, o, ho, _⟩ := K'.frames.mem hb
    exact ⟨o, ho⟩
  refine ⟨hideAll h₃ (e :: (env :: outer).filterMap (·.frame)), fun b o hb hm => hideAll_get _ (kp b o hb) fun q => ?_, fun b o hb => of_hideAll _ hb, hideAll_none _ (.head _),
    funFrames_hide (K'.frames.of_keeps fun b o hb _ => ⟨o, kp b o hb, rfl⟩) (fun env he b hb => List.mem_cons_of_mem _ (List.mem_filterMap.mpr ⟨env, he, hb⟩)), ns_hide e2 fun q => ?_, e4, e3, .inl ⟨_, _, e1, rfl, rfl, rfl, rfl⟩⟩
  · rcases List.mem_cons.mp q with rfl | q
    · rw [e4] at hb; cases hb
    · exact hm q
  · rcases List.mem_cons.mp q with q | q
    · exact e5 q
    · obtain ⟨o, ho⟩ := fr _ q
      rw [e3] at ho; cases ho
theorem raise_ref {E' : Value → Shared → Prop} {e₀ : Expr} {np cpos pos : Pos} {Q : Flow → Shared → Prop} (C : Site w p loose mean mg mb g) (K : Below A₀ base outer g) (F : Fr g L s.heap m) (hh : A₀.handled = none) (hdp : A₀.depth + 4 < recursionLimit)
    (h : ∀ R : List Value → Shared → Prop, (∀ v s₂, Fr g L s₂.heap m → (∀ h' tk' e dx, Hurled g outer e dx v h' → g.UpToSlots h' → E' (.ref e) { s₂ with heap := h', toks := tk' }) → R [v] s₂) →
      wpAny (model prog w) (A₀.deeper env) (spliced (backTo cpos (starEach [e₀] env))) R
        (fun e s' => wpAny (model prog w) (A₀.deeper env) (leaving env e) (fun _ s'' => E' e s'') (fun e' s'' => E' e' s'') s') s)
    (hf : env.frame = some L) (hgl : env.globals = mainGlobals) (he : starEach [e₀] env = [(false, eval e₀ env)] := by rfl)
    (hk : env.scope.kind = .function := by rfl) (hx : env.kindOf "Refusal" = some .globalImplicit := by rfl) :
    wpAny (model prog w) (A₀.deeper env) (exec (.Raise (some (.Call (.Name "Refusal" np) [e₀] [] cpos)) none pos) env) Q
      (fun e s' => wpAny (model prog w) (A₀.deeper env) (leaving env e) (fun _ s'' => E' e s'') (fun e' s'' => E' e' s'') s') s := by
  refine Raise_ref hh (by rw [he]; rfl) (Calls.Name_function_global hk hx (Calls.loadGlobal_global (env := env) (by rw [hgl]; exact ((topRead_of C.T).g).keeps F.keep) (mg_of C.X (topRead_of C.T).g ref_name) ⟨rfl, ?_⟩))
  rw [he] at h ⊢
  refine Calls.evalArgs_plain ?_
  refine h _ fun v s₂ F₂ hE => ⟨rfl, C.X.keeps F₂.keep, ?_⟩
  refine made_refusal ⟨C.X.keeps F₂.keep, C.T.keeps F₂.keep⟩ ?_ fun h' tk' e t dx e1 e2 e3 e4 e5 kp => ⟨e, _, _, rfl, (C.X.keeps F₂.keep).keeps kp, e1, ?_⟩
  · simp only [depth_deeper]; omega
  · exact leave_hurled (s := ⟨h', s₂.gens, s₂.drawn, tk', s₂.os⟩) K F₂ (hurled_new K F₂ e1 e2 e3 e4 e5 kp hf hk) (.of_keeps kp) hf fun h'' H U => hE h'' tk' e dx H U
end
noncomputable def Thru (fs : Option (List Env)) (base : Heap) (outer : List Env) (h : Heap) : Prop := fs = some outer ∧ base.StaysIn h ∧ h.FunFrames base outer
theorem Thru.below {dp un : Nat} {fs : Option (List Env)} {gd : Option (List Code)} {base h : Heap} {outer : List Env} (K : Thru fs base outer h) : Below (At dp un fs gd) base outer h := ⟨K.1, K.2.1, K.2.2⟩
theorem Thru.push {fs : Option (List Env)} {base g h : Heap} {outer : List Env} {L : Addr} {m : Str → Option Value} {env : Env} (K : Thru fs base outer g) (F : Fr g L h m) (hf : env.frame = some L) (hk : env.scope.kind = .function) :
    Thru (Option.map (fun l => env :: l) fs) base (env :: outer) h := by
  have B := push_env (Thru.below (dp := 0) (un := 0) (gd := none) K) F hf hk
  exact ⟨by rw [K.1]; rfl, B.stays, B.frames⟩
end
-- part wo
example : True := by
 w_top off
 exact True.intro
namespace T_wo
theorem on_wo : True := True.intro
end T_wo
section
open T_rx T_ry T_rz T_vec T_nw T_cn T_wo T_mem
example : True := by
 (k_with "exec Raise some none" => ((fail_if_success (fail_if_success (have := @on_wo))); ((k_here; k_dflt (refine' raise_ref ?C ?K ?F ?h ?d ?_ ?kk1 ?kk2 ?kk3 ?kk4 ?kk5; (case C => exact ⟨by k_asm, by k_asm⟩); (case K => exact Thru.below (by assumption)); (case F => k_asm); (case h => rfl); (case d => k_extra "ktr_unf"); (case kk1 => rfl); (case kk2 => rfl); (case kk3 => rfl); (case kk4 => rfl); (case kk5 => rfl); k_whole; intro R9 hR9; (try dsimp only); (try k_fold))))))
 exact True.intro
theorem raise_end {R : List Value → Shared → Prop} {g : Heap} {L : Addr} {m : Str → Option Value} {outer : List Env} {E' : Value → Shared → Prop} {v : Value} {s₂ : Shared}
    (hR : ∀ v s₂, Fr g L s₂.heap m → (∀ h' tk' e dx, Hurled g outer e dx v h' → g.UpToSlots h' → E' (.ref e) { s₂ with heap := h', toks := tk' }) → R [v] s₂) (F : Fr g L s₂.heap m)
    (k : ∀ h' tk' e dx, Hurled g outer e dx v h' → g.UpToSlots h' → E' (.ref e) { s₂ with heap := h', toks := tk' }) : R [v] s₂ := hR _ _ F k
example : True := by
 (k_with "top_raise" => ((fail_if_success (fail_if_success (have := @on_wo))); ((refine' raise_end ?hR ?F ?_; (case hR => assumption); (case F => k_asm)))))
 exact True.intro
inductive WholeIs (w : World) (h : Heap) (usual : Int) : Value → Option Int → Prop
  | none : WholeIs w h usual .none (some usual)
  | null {a : Addr} : NullAt w h a → WholeIs w h usual (.ref a) (some usual)
  | int1 {a l : Addr} {n : Int} {t : Tok} : VecAt w h a "integer" l → h.IsList l #[.int n t] → WholeIs w h usual (.ref a) (some n)
  | dbl {a l tp : Addr} {n d : Int} {t t' : Tok} : VecAt w h a "double" l → h.IsList l #[.ref tp] → IsTup h tp #[.int n t, .int d t'] → 0 < d → d < 2 ^ 64 → n.natAbs < 2 ^ 64 → WholeIs w h usual (.ref a) (some (Int.fdiv n d))
  | intN {a l : Addr} : VecAt w h a "integer" l → h.IsList l #[.none] → WholeIs w h usual (.ref a) none
  | int2 {a l : Addr} {n n' : Int} {t t' : Tok} : VecAt w h a "integer" l → h.IsList l #[.int n t, .int n' t'] → WholeIs w h usual (.ref a) none
  | dbl0 {a l tp : Addr} {n : Int} {t t' : Tok} : VecAt w h a "double" l → h.IsList l #[.ref tp] → IsTup h tp #[.int n t, .int 0 t'] → WholeIs w h usual (.ref a) none
  | chr {a l : Addr} : VecAt w h a "character" l → WholeIs w h usual (.ref a) none
  | lgl {a l : Addr} : VecAt w h a "logical" l → WholeIs w h usual (.ref a) none
section
variable {prog : Program} {w : World} {p : Program} {loose : List Str} {mean : ExcName → Option Value} {mg mb : Str → Option Value} {dp un : Nat} {fs : Option (List Env)} {gd : Option (List Code)} {s : Shared} {Q E : Value → Shared → Prop} {base : Heap} {outer : List Env}
theorem whole_option_ok {v : Value} {nm : Str} {t t0 : Tok} {usual : Int} {out : Option Int}
    (C : Site w p loose mean mg mb s.heap) (K : Thru fs base outer s.heap) (hdd : dp + 5 < recursionLimit) (hu : un + 60 < cLine) (hv : WholeIs w s.heap usual v out) (hn : nm.length ≤ 100)
    (ret : ∀ r, out = some r → Ret s Q fun v _ => ∃ tk, v = .int r tk)
    (rs : out = none → ∀ h' tk' e dx tm, Hurled s.heap outer e dx (.str (Str.ofString "invalid '" ++ nm ++ Str.ofString "' argument") tm) h' → s.heap.UpToSlots h' → E (.ref e) { s with heap := h', toks := tk' }) :
    wpAny (model prog w) (At dp un fs gd) (call (.ref 269) [v, .str nm t, .int usual t0]) Q E s := by
  refine quietly ?_ ?_
  focus
    obtain ⟨X, T⟩ := C
    cases hv with
    | none =>
      k_extra "tb_start"
      k_steps
      exact ret_int (s := s) (ret _ rfl) (Fr.keep (by assumption)) rfl
    | null hv =>
      obtain ⟨dx, kt, t1, t2, e1, e2⟩ := hv
      k_extra "tb_start"
      k_steps
      exact ret_int (s := s) (ret _ rfl) (Fr.keep (by assumption)) rfl
    | int1 hv hl =>
      obtain ⟨dx, kt, t1, t2, t3, t4, t5, e1, e2⟩ := hv
      k_extra "tb_start"
      k_steps
      exact ret_int (s := s) (ret _ rfl) (Fr.keep (by assumption)) rfl
    | dbl hv hl ht h0 h1 h2 =>
      obtain ⟨dx, kt, t1, t2, t3, t4, t5, e1, e2⟩ := hv
      k_extra "tb_start"
      k_steps
      all_goals first | exact ret_int (s := s) (ret _ rfl) (Fr.keep (by assumption)) rfl | exact absurd rfl ‹_ ≠ (1 : Int)›
    | intN hv hl =>
      obtain ⟨dx, kt, t1, t2, t3, t4, t5, e1, e2⟩ := hv
      k_extra "tb_start"
      k_steps
      k_extra "top_raise"
      exact fun h' tk' e dx H U => rs rfl h' tk' e dx _ H U
    | int2 hv hl =>
      obtain ⟨dx, kt, t1, t2, t3, t4, t5, e1, e2⟩ := hv
      k_extra "tb_start"
      k_steps
      k_extra "top_raise"
      exact fun h' tk' e dx H U => rs rfl h' tk' e dx _ H U
    | dbl0 hv hl ht =>
      obtain ⟨dx, kt, t1, t2, t3, t4, t5, e1, e2⟩ := hv
      k_extra "tb_start"
      k_steps
      all_goals (k_extra "top_raise"; exact fun h' tk' e dx H U => rs rfl h' tk' e dx _ H U)
    | chr hv =>
      obtain ⟨dx, kt, t1, t2, t3, t4, t5, e1, e2⟩ := hv
      k_extra "tb_start"
      k_steps
      k_extra "top_raise"
      exact fun h' tk' e dx H U => rs rfl h' tk' e dx _ H U
    | lgl hv =>
      obtain ⟨dx, kt, t1, t2, t3, t4, t5, e1, e2⟩ := hv
      k_extra "tb_start"
      k_steps
      k_extra "top_raise"
      exact fun h' tk' e dx H U => rs rfl h' tk' e dx _ H U
  intro hf
  simpa only using (ensure_type_of% (quiet_coe hf (0 : Nat) (by exact rfl)) "" hf)
end
end
-- part do
example : True := by
 w_top off
 exact True.intro
namespace T_do
theorem on_do : True := True.intro
end T_do
section
open T_wo T_rx T_ry T_rz T_vec T_nw T_cn T_do T_mem
example : True := by
 (k_with "top_caughtB" => ((fail_if_success (fail_if_success (have := @on_do))); ((refine' Thru.push ?kk1 ?kk2 ?kk3 ?kk4; (case kk3 => rfl); (case kk4 => rfl); (case kk1 => assumption); (case kk2 => k_asm)))))
 exact True.intro
example : True := by
 (k_with "call ref" => ((fail_if_success (fail_if_success (have := @on_do))); ((k_here; (with_reducible refine (?_ : wpAny _ _ (call (Value.ref 269) _) _ _ _)); k_dflt (refine' whole_option_ok ?kC ?kK ?kd ?ku ?kv ?kn ?_ ?_; (case kC => k_extra "ktr_rel"); (case kK => k_extra "top_caughtB"); (case kd => k_extra "ktr_unf"); (case ku => k_extra "kwd_rel"); (case kv => k_extra "top_caught0"); (case kn => first | decide | (simp only [Str.length]; decide)); (k_whole; intro r9 hr9 v9 h9 tk9 keep9 e9; obtain ⟨t9, e9⟩ := e9; subst e9; have F9 := fr_on (by k_asm) keep9; have N9 := news_on (by k_asm) keep9; (try simp only [List.nil_append, List.cons_append, List.append_nil] at N9); clear keep9; (try dsimp only); (try k_fold)); rotate_left; (k_whole; intro hr9 h9 tk9 e9 dx9 tm9 H9 U9; (try dsimp only); (try k_fold)); rotate_right)))))
 exact True.intro
example : True := by
 (k_with "top_caught0" => ((fail_if_success (fail_if_success (have := @on_do))); (first | assumption | exact .none | exact .null (by assumption))))
 exact True.intro
example : True := by
 (k_with "leaving ref" => ((fail_if_success (fail_if_success (have := @on_do))); ((k_here; (rename Hurled _ _ _ _ _ _ => hH9); (rename Heap.UpToSlots _ _ => hU9); k_dflt (refine' leave_hurled ?k1 ?k2 hH9 hU9 ?k3 ?_; (case k3 => rfl); (case k1 => exact Thru.below (by assumption)); (case k2 => k_asm); k_whole; intro h' H' U'; clear hH9 hU9; (try dsimp only at H' U' ⊢))))))
 exact True.intro
section
variable {prog : Program} {w : World} {p : Program} {loose : List Str} {mean : ExcName → Option Value} {mg mb : Str → Option Value} {dp un : Nat} {fs : Option (List Env)} {gd : Option (List Code)} {s : Shared} {Q E : Value → Shared → Prop} {base : Heap} {outer : List Env}
theorem WholeIs.keeps {h h' : Heap} {u : Int} {v : Value} {out : Option Int} (k : Keeps h h') : WholeIs w h u v out → WholeIs w h' u v out
  | .none => .none
  | .null a => .null (by obtain ⟨dx, kt, t1, t2, e1, e2⟩ := a; exact ⟨dx, kt, t1, t2, k _ _ e1, k _ _ e2⟩)
  | .int1 a b => .int1 (a.keeps k) (stays_list k b)
  | .dbl a b c d e f => .dbl (a.keeps k) (stays_list k b) (stays_tup k c) d e f
  | .intN a b => .intN (a.keeps k) (stays_list k b)
  | .int2 a b => .int2 (a.keeps k) (stays_list k b)
  | .dbl0 a b c => .dbl0 (a.keeps k) (stays_list k b) (stays_tup k c)
  | .chr a => .chr (a.keeps k)
  | .lgl a => .lgl (a.keeps k)
example : True := by
 (k_with "top_caught0" => ((fail_if_success (fail_if_success (have := @on_do))); (exact WholeIs.keeps (Fr.keep (by k_asm)) (by assumption))))
 exact True.intro
theorem msg_digits : (Str.ofString "invalid '" ++ Str.ofString "digits" ++ Str.ofString "' argument") = Str.ofString "invalid 'digits' argument" := by decide
theorem digits_option_ok {v : Value} {out : Option Int}
    (C : Site w p loose mean mg mb s.heap) (K : Thru fs base outer s.heap) (hdd : dp + 7 < recursionLimit) (hu : un + 80 < cLine) (hv : WholeIs w s.heap 7 v out)
    (ret : ∀ r, out = some r → 1 ≤ r → r ≤ 22 → Ret s Q fun v _ => ∃ tk, v = .int r tk)
    (rs : (∀ r, out = some r → r < 1 ∨ 22 < r) → ∀ h' tk' e dx tm, Hurled s.heap outer e dx (.str (Str.ofString "invalid 'digits' argument") tm) h' → s.heap.UpToSlots h' → E (.ref e) { s with heap := h', toks := tk' }) :
    wpAny (model prog w) (At dp un fs gd) (call (.ref 283) [v]) Q E s := by
  refine quietly ?_ ?_
  focus
    obtain ⟨X, T⟩ := C
    k_extra "tb_start"
    k_steps
    all_goals first
      | (k_extra "top_raise"; rename out = some _ => hq9; exact fun h' tk' e dx H U => rs (fun r q => by rw [hq9] at q; cases q; omega) h' tk' e dx _ H U)
      | exact ret_int (s := s) (ret _ ‹out = some _› (by omega) (by omega)) (Fr.keep (by assumption)) rfl
      | (rename Hurled _ _ _ _ _ _ => H1; rw [msg_digits] at H1; exact rs (fun r q => by rw [‹out = none›] at q; cases q) _ _ _ _ _ H1 ‹Heap.UpToSlots _ _›)
  intro hf
  simpa only using (ensure_type_of% (quiet_coe hf (0 : Nat) (by exact rfl)) "" hf)
end
end
-- part it
example : True := by
 w_top off
 exact True.intro
namespace T_it
theorem on_it : True := True.intro
end T_it
section
open T_it T_mem
noncomputable def IdxPost (h₀ : Heap) (L I ax : Addr) (oI lo : Obj) (J : (Str → Option Value) → Prop) (s₁ : Shared) (Q : Flow → Shared → Prop) (f : Flow) (s₂ : Shared) : Prop :=
  match f with
  | .ret v => Q (.ret v) s₂
  | .brk => Q .next s₂
  | _ => ∃ h' tk m', s₂ = { s₁ with heap := h', toks := tk } ∧ Fr h₀ L h' m' ∧ News h₀ L h' [(I, oI), (ax, lo)] ∧ J m'
theorem idx_next {h₀ h' : Heap} {L I ax : Addr} {oI lo : Obj} {J : (Str → Option Value) → Prop} {s₁ : Shared} {Q : Flow → Shared → Prop} {tk : Nat} {m' : Str → Option Value}
    (F : Fr h₀ L h' m') (N : News h₀ L h' [(I, oI), (ax, lo)]) (hj : J m') : IdxPost h₀ L I ax oI lo J s₁ Q .next { s₁ with heap := h', toks := tk } := ⟨h', tk, m', rfl, F, N, hj⟩
section
variable {prog : Program} {w : World} {A : Around} {E : Value → Shared → Prop} {s : Shared} {env : Env} {h₀ : Heap} {target : Expr} {body : List Stmt} {Q : Flow → Shared → Prop}
noncomputable def IdxAt (h₀ : Heap) (L : Addr) (J : (Str → Option Value) → Prop) (us : List Str) (s : Shared) (xv : Value) (s₁ : Shared) : Prop :=
  ∃ ax lo vs n m₀ h tk, xv = .ref ax ∧ s₁ = { s with heap := h, toks := tk } ∧ Fr h₀ L h m₀ ∧ News h₀ L h [(ax, lo)] ∧ lo.cls = .type "tuple" ∧ lo.data = .seq (List.toArray vs) n ∧ J m₀ ∧ StrsAre vs us
theorem idx_get {vs : List Value} {ys : List Str} (h : StrsAre vs ys) : ∀ {i : Nat} {v : Value}, vs[i]? = some v → ∃ y t, ys[i]? = some y ∧ v = .str y t := by
  induction h with
  | nil => intro i v q; simp at q
  | cons y t _ ih =>
    intro i v q
    cases i with
    | zero => simp only [List.getElem?_cons_zero, Option.some.injEq] at q; exact ⟨y, t, rfl, q.symm⟩
    | succ i => simp only [List.getElem?_cons_succ] at q ⊢; exact ih q
theorem idx_len {vs : List Value} {ys : List Str} (h : StrsAre vs ys) : vs.length = ys.length := by
  induction h with
  | nil => rfl
  | cons _ _ _ ih => simpa using ih
theorem For_idx {iter : Expr} {pos : Pos} {m : Str → Option Value} (_F : Fr h₀ env.locals s.heap m) (J : Nat → (Str → Option Value) → Prop) (us : List Str)
    (turn : ∀ i y t h tk m I oI ax lo, us[i]? = some y → J i m → (@Ne Nat ax I) → Fr h₀ env.locals h m → News h₀ env.locals h [(I, oI), (ax, lo)] →
      wpAny (model prog w) A (assign target env (.str y t)) (fun _ s₂ => wpAny (model prog w) A (execs body env) (IdxPost h₀ env.locals I ax oI lo (J (i + 1)) { s with heap := h, toks := tk } Q) E s₂) E { s with heap := h, toks := tk })
    (done : ∀ h tk m nx, J us.length m → Fr h₀ env.locals h m → News h₀ env.locals h nx → Q .next { s with heap := h, toks := tk })
    (h : wpAny (model prog w) A (eval iter env) (IdxAt h₀ env.locals (J 0) us s) E s)
    (hh : A.handled = none)
    (hs : ∀ x, foldedSetIterable iter env x = pure x := by intro _; rfl)
    (hE : PassesOwn (model prog w) A env E := by passes_own) :
    wpAny (model prog w) A (exec (.For target iter body [] pos) env) Q E s := by
  refine For_turns _F (wpAny_mono h (fun xv s₁ h₁ => ?_) fun _ _ e => e) hs hE
  obtain ⟨ax, lo, vs, n, m₀, h', tk', rfl, rfl, F, N, hc, hd, j0, hV⟩ := h₁
  have hlen : vs.length = us.length := idx_len hV
  refine iter_tupTurns (s := { s with heap := h', toks := tk' }) hh F N (.head _) hc hd fun I hI => ?_
  have hIx : @Ne Nat ax I := Nat.ne_of_lt (hI _ (.head _))
  have key : ∀ (ws : List Value) (i : Nat) (m : Str → Option Value), vs.drop i = ws → i ≤ us.length → J i m → ItemsRest prog w A E h₀ env target body Q { s with heap := h', toks := tk' } [(I, "tuple_iterator")] [(ax, lo)] (ws.map .val) m [(ax, lo)] := by
    intro ws
    induction ws with
    | nil =>
      intro i m hw hi hj
      have : i = us.length := Nat.le_antisymm hi (hlen ▸ List.drop_eq_nil_iff.mp hw)
      subst this
      exact ItemsRest.zero fun h tk F' N' => done h tk m _ hj F' N'
    | cons v ws ih =>
      intro i m hw hi hj
      have hv : vs[i]? = some v := by rw [← List.head?_drop, hw]; rfl
      obtain ⟨y, t, hy, rfl⟩ := idx_get hV hv
      have hi' : i + 1 ≤ us.length := (List.getElem?_eq_some_iff.mp hy).1
      refine ItemsRest.val fun h tk F' => AllObj.cons fun oI _ => AllObj.nil fun N' => ?_
      refine wpAny_mono (turn i y t h tk m I oI ax lo hy hj hIx F' N') (fun _ s₂ q => wpAny_mono q (fun f s₃ q => ?_) fun _ _ e => e) fun _ _ e => e
      have fin : (∃ h' tk' m', s₃ = { s with heap := h', toks := tk' } ∧ Fr h₀ env.locals h' m' ∧ News h₀ env.locals h' [(I, oI), (ax, lo)] ∧ J (i + 1) m') →
          UnrEndW h₀ env.locals { s with heap := h, toks := tk } [(I, oI)] (fun m' n' => SubL [(ax, lo)] n' ∧ ItemsRest prog w A E h₀ env target body Q { s with heap := h', toks := tk' } [(I, "tuple_iterator")] [(ax, lo)] (ws.map .val) m' n') s₃ := by
        rintro ⟨h2, tk2, m2, rfl, F2, N2, j2⟩
        refine ⟨h2, tk2, m2, [(ax, lo)], rfl, F2, N2, fun p hp q hq => ?_, ⟨.head _, trivial⟩, ih (i + 1) m2 (by rw [← List.tail_drop, hw]; rfl) hi' j2⟩
        rw [List.mem_singleton.mp hq, List.mem_singleton.mp hp]
        exact hIx
      cases f with
      | ret v => exact q
      | brk => exact q
      | next => exact fin q
      | cont => exact fin q
  exact key vs 0 m₀ rfl (Nat.zero_le _) j0
end
end
-- part so
example : True := by
 w_top off
 exact True.intro
namespace T_so
theorem on_so : True := True.intro
end T_so
section
open T_rx T_ry T_rz T_wo T_vec T_nw T_it T_so T_mem
noncomputable abbrev sideMsg : Str := Str.ofString "'arg' should be one of ‘left’, ‘right’, ‘centre’, ‘none’"
noncomputable def sideTw (x : Str) : Option Str :=
  if (x != Str.ofString "") = true then
    if Txt.startswith (Str.ofString "left") x = true then some (Str.ofString "left")
    else if Txt.startswith (Str.ofString "right") x = true then some (Str.ofString "right")
    else if Txt.startswith (Str.ofString "centre") x = true then some (Str.ofString "centre")
    else if Txt.startswith (Str.ofString "none") x = true then some (Str.ofString "none") else none
  else none
inductive SideIs (w : World) (h : Heap) : Value → Option Str → Prop
  | none : SideIs w h .none (some (Str.ofString "left"))
  | chr {a l : Addr} {x : Str} {t : Tok} {vs : List Value} : VecAt w h a "character" l → h.IsList l (.str x t :: vs).toArray → x.length ≤ 100 → vs.length ≤ 100 → SideIs w h (.ref a) (sideTw x)
  | chrN {a l : Addr} {vs : List Value} : VecAt w h a "character" l → h.IsList l (.none :: vs).toArray → vs.length ≤ 100 → SideIs w h (.ref a) none
  | int {a l : Addr} : VecAt w h a "integer" l → SideIs w h (.ref a) none
theorem SideIs.keeps {w : World} {h h' : Heap} {v : Value} {out : Option Str} (k : Keeps h h') : SideIs w h v out → SideIs w h' v out
  | .none => .none
  | .chr a b c d => .chr (a.keeps k) (stays_list k b) c d
  | .chrN a b d => .chrN (a.keeps k) (stays_list k b) d
  | .int a => .int (a.keeps k)
noncomputable def sidesU : List Str := [Str.ofString "left", Str.ofString "right", Str.ofString "centre", Str.ofString "none"]
theorem side_hit {x y : Str} {i : Nat} (hx : (x != Str.ofString "") = true) (hy : sidesU[i]? = some y) (hs : Txt.startswith y x = true) (no : ∀ j z, j < i → sidesU[j]? = some z → Txt.startswith z x = false) : sideTw x = some y := by
  have h4 : i < 4 := (List.getElem?_eq_some_iff.mp hy).1
  unfold sideTw
  rw [if_pos hx]
  have h5 : i = 0 ∨ i = 1 ∨ i = 2 ∨ i = 3 := by omega
  rcases h5 with q | q | q | q <;> subst q <;> cases hy
  · rw [if_pos hs]
  · rw [if_neg (by rw [no 0 _ (by decide) rfl]; decide), if_pos hs]
  · rw [if_neg (by rw [no 0 _ (by decide) rfl]; decide), if_neg (by rw [no 1 _ (by decide) rfl]; decide), if_pos hs]
  · rw [if_neg (by rw [no 0 _ (by decide) rfl]; decide), if_neg (by rw [no 1 _ (by decide) rfl]; decide), if_neg (by rw [no 2 _ (by decide) rfl]; decide), if_pos hs]
theorem side_miss {x : Str} (no : ∀ j z, j < 4 → sidesU[j]? = some z → (x != Str.ofString "") = true → Txt.startswith z x = false) : sideTw x = none := by
  unfold sideTw
  by_cases hx : (x != Str.ofString "") = true
  · rw [if_pos hx, if_neg (by rw [no 0 _ (by decide) rfl hx]; decide), if_neg (by rw [no 1 _ (by decide) rfl hx]; decide), if_neg (by rw [no 2 _ (by decide) rfl hx]; decide), if_neg (by rw [no 3 _ (by decide) rfl hx]; decide)]
  · rw [if_neg hx]
noncomputable def NoSide (x : Str) (i : Nat) : Prop := ∀ j z, j < i → sidesU[j]? = some z → (x != Str.ofString "") = true → Txt.startswith z x = false
theorem noSide_zero {x : Str} : NoSide x 0 := fun _ _ h => absurd h (Nat.not_lt_zero _)
theorem noSide_empty {x : Str} {i : Nat} (h : (x != Str.ofString "") = false) : NoSide x i := fun _ _ _ _ q => by rw [h] at q; cases q
theorem noSide_succ {x y : Str} {i : Nat} (h : NoSide x i) (hy : sidesU[i]? = some y) (hs : Txt.startswith y x = false) : NoSide x (i + 1) := fun j z hj hz hx => by
  rcases Nat.lt_succ_iff_lt_or_eq.mp hj with q | q
  · exact h j z q hz hx
  · subst q; rw [hy] at hz; cases hz; exact hs
theorem noSide_hit {x y : Str} {i : Nat} (h : NoSide x i) (hx : (x != Str.ofString "") = true) (hy : sidesU[i]? = some y) (hs : Txt.startswith y x = true) : sideTw x = some y := side_hit hx hy hs fun j z hj hz => h j z hj hz hx
theorem noSide_miss {x : Str} (h : NoSide x 4) : sideTw x = none := side_miss fun j z hj hz hx => h j z hj hz hx
section
variable {prog : Program} {w : World} {p : Program} {loose : List Str} {mean : ExcName → Option Value} {mg mb : Str → Option Value} {dp un : Nat} {fs : Option (List Env)} {gd : Option (List Code)} {s : Shared} {Q E : Value → Shared → Prop} {base : Heap} {outer : List Env}
example : True := by
 (k_with "call builtin:len" => ((fail_if_success (fail_if_success (have := @on_so))); ((k_here; (with_reducible refine (?_ : wpAny _ _ (call (Value.builtin "len") [Value.ref _]) _ _ _)); k_dflt (refine' kun_lenL ?kl ?kk ?kz ?_; (case kl => exact stays_list (Fr.keep (by k_asm)) (by assumption)); (case kk => assumption); (case kz => assumption); k_whole)))))
 exact True.intro
example : True := by
 (k_with "exec For Name Tuple cons nil" => ((fail_if_success (fail_if_success (have := @on_so))); (k_here; refine Held.go ?_)))
 exact True.intro
theorem side_option_ok {v : Value} {out : Option Str}
    (C : Site w p loose mean mg mb s.heap) (K : Thru fs base outer s.heap) (hdd : dp + 5 < recursionLimit) (hu : un + 60 < cLine) (hv : SideIs w s.heap v out)
    (ret : ∀ r, out = some r → Ret s Q fun v _ => ∃ tk, v = .str r tk)
    (rs : out = none → ∀ h' tk' e dx tm, Hurled s.heap outer e dx (.str sideMsg tm) h' → s.heap.UpToSlots h' → E (.ref e) { s with heap := h', toks := tk' }) :
    wpAny (model prog w) (At dp un fs gd) (call (.ref 312) [v]) Q E s := by
  refine quietly ?_ ?_
  focus
    obtain ⟨X, T⟩ := C
    cases hv with
    | none =>
      k_extra "tb_start"
      k_steps
      exact ret_str (s := s) (ret _ rfl) (Fr.keep (by assumption)) rfl
    | int hv =>
      rename_i a l
      obtain ⟨dx, kt, t1, t2, t3, t4, t5, e1, e2⟩ := hv
      k_extra "tb_start"
      k_steps
      unfold Held
      (rename Fr _ _ _ _ => F9)
      (with_reducible refine' For_idx F9 (fun i m => m (Str.ofString "v") = some (.ref a) ∧ True) sidesU ?_ ?_ ?_ ?_ ?_ ?_)
      · clear F9
        intro i y t h tk m I oI ax lo hy hj hne F N
        obtain ⟨hj, hi⟩ := hj
        (first | replace F := kst1 (m := m) hj F | replace F := kstu1 (m := m) hj F)
        clear hj
        k_steps
        exact idx_next (by k_asm) (by k_asm) ⟨by with_unfolding_all rfl, trivial⟩
      · clear F9
        intro h tk m nx hj F N
        obtain ⟨hj, hi⟩ := hj
        (first | replace F := kst1 (m := m) hj F | replace F := kstu1 (m := m) hj F)
        clear hj N
        k_steps
        k_extra "top_raise"
        exact fun h' tk' e dx H U => rs rfl h' tk' e dx _ H U
      · k_steps
        exact ⟨_, _, _, _, _, _, _, rfl, rfl, by k_asm, by k_asm, rfl, rfl, ⟨by with_unfolding_all rfl, trivial⟩, .cons _ _ (.cons _ _ (.cons _ _ (.cons _ _ .nil)))⟩
      · rfl
      · intro _; rfl
      · passes_own
    | chrN hv hl hs =>
      rename_i a l vs
      obtain ⟨n9, hk9⟩ : ∃ n : Int, (((Value.none :: vs).toArray.size : Nat) : Int) = n := ⟨_, rfl⟩
      have hsz : 0 < n9 := by rw [← hk9]; simp only [List.size_toArray, List.length_cons]; omega
      have hz9 : n9 ≤ 16384 := by rw [← hk9]; simp only [List.size_toArray, List.length_cons]; omega
      obtain ⟨dx, kt, t1, t2, t3, t4, t5, e1, e2⟩ := hv
      k_extra "tb_start"
      k_steps
      unfold Held
      (rename Fr _ _ _ _ => F9)
      (with_reducible refine' For_idx F9 (fun i m => m (Str.ofString "v") = some (.ref a) ∧ True) sidesU ?_ ?_ ?_ ?_ ?_ ?_)
      · clear F9
        intro i y t h tk m I oI ax lo hy hj hne F N
        obtain ⟨hj, hi⟩ := hj
        (first | replace F := kst1 (m := m) hj F | replace F := kstu1 (m := m) hj F)
        clear hj
        k_steps
        exact idx_next (by k_asm) (by k_asm) ⟨by with_unfolding_all rfl, trivial⟩
      · clear F9
        intro h tk m nx hj F N
        obtain ⟨hj, hi⟩ := hj
        (first | replace F := kst1 (m := m) hj F | replace F := kstu1 (m := m) hj F)
        clear hj N
        k_steps
        k_extra "top_raise"
        exact fun h' tk' e dx H U => rs rfl h' tk' e dx _ H U
      · k_steps
        exact ⟨_, _, _, _, _, _, _, rfl, rfl, by k_asm, by k_asm, rfl, rfl, ⟨by with_unfolding_all rfl, trivial⟩, .cons _ _ (.cons _ _ (.cons _ _ (.cons _ _ .nil)))⟩
      · rfl
      · intro _; rfl
      · passes_own
    | chr hv hl hx hs =>
      rename_i a l x t vs
      obtain ⟨n9, hk9⟩ : ∃ n : Int, (((Value.str x t :: vs).toArray.size : Nat) : Int) = n := ⟨_, rfl⟩
      have hsz : 0 < n9 := by rw [← hk9]; simp only [List.size_toArray, List.length_cons]; omega
      have hz9 : n9 ≤ 16384 := by rw [← hk9]; simp only [List.size_toArray, List.length_cons]; omega
      obtain ⟨dx, kt, t1, t2, t3, t4, t5, e1, e2⟩ := hv
      k_extra "tb_start"
      k_steps
      unfold Held
      (rename Fr _ _ _ _ => F9)
      (with_reducible refine' For_idx F9 (fun i m => m (Str.ofString "v") = some (.ref a) ∧ NoSide x i) sidesU ?_ ?_ ?_ ?_ ?_ ?_)
      · clear F9
        intro i y t h tk m I oI ax lo hy hj hne F N
        obtain ⟨hj, hi⟩ := hj
        (first | replace F := kst1 (m := m) hj F | replace F := kstu1 (m := m) hj F)
        clear hj
        k_steps
        · exact ret_str (s := s) (ret _ (noSide_hit hi (by assumption) hy (by assumption))) (Fr.keep (by assumption)) rfl
        · exact idx_next (by k_asm) (by k_asm) ⟨by with_unfolding_all rfl, noSide_succ hi hy (by assumption)⟩
        · exact idx_next (by k_asm) (by k_asm) ⟨by with_unfolding_all rfl, noSide_empty (by assumption)⟩
      · clear F9
        intro h tk m nx hj F N
        obtain ⟨hj, hi⟩ := hj
        (first | replace F := kst1 (m := m) hj F | replace F := kstu1 (m := m) hj F)
        clear hj N
        k_steps
        k_extra "top_raise"
        exact fun h' tk' e dx H U => rs (noSide_miss hi) h' tk' e dx _ H U
      · k_steps
        exact ⟨_, _, _, _, _, _, _, rfl, rfl, by k_asm, by k_asm, rfl, rfl, ⟨by with_unfolding_all rfl, noSide_zero⟩, .cons _ _ (.cons _ _ (.cons _ _ (.cons _ _ .nil)))⟩
      · rfl
      · intro _; rfl
      · passes_own
  intro hf
  simpa only using (ensure_type_of% (quiet_coe hf (0 : Nat) (by exact rfl)) "" hf)
end
end
-- part ca
example : True := by
 w_top off
 exact True.intro
namespace T_ca
theorem on_ca : True := True.intro
end T_ca
section
open T_rx T_ry T_rz T_ca T_mem
section
variable {prog : Program} {w : World} {p : Program} {loose : List Str} {mean : ExcName → Option Value} {mg mb : Str → Option Value} {E : Value → Shared → Prop} {s' : Shared} {A₀ : Around} {base g G : Heap} {outer : List Env} {L a e d : Addr} {m : Str → Option Value} {name : Str} {scope : Scope} {cd v : Value}
  {n : Str} {b₀ : Stmt} {suite : List Stmt} {pos np : Pos} {rest : List ExceptHandler} {Q : Flow → Shared → Prop}
theorem caught_ref (SB : Site w p loose mean mg mb base) (K : Below A₀ base outer g) (F : Fr g L G m) (R : Hurled G (envOf name scope L a cd :: outer) e d v s'.heap) (u : G.UpToSlots s'.heap)
    (k : ∀ h' g' tk oe vs, KtsTurn (outer.filterMap (·.frame)) g g' → Fr g' L h' (fun y => if y = n then some (.ref e) else m y) → News g' L h' [] → h'.get? e = some oe → oe.cls = .ref 51 → oe.data = .fields vs → oe.dict = some d → h'.Ns d (msgMap v) →
      (hd.heap_1_1 w.params).In g' → Top p loose mean mg mb g' →
      wpAny (model prog w) ((A₀.deeper (envOf name scope L a cd)).mark (some (.ref e))) (execs (b₀ :: suite) (envOf name scope L a cd))
        (fun f s₄ => wpAny (model prog w) (A₀.deeper (envOf name scope L a cd)) (do bindName (envOf name scope L a cd) n .none; unbindBehindTheSuite (envOf name scope L a cd) n pos) (fun _ s₅ => Q f s₅) E s₄)
        (AsSuiteRaised (model prog w) ((A₀.deeper (envOf name scope L a cd)).mark (some (.ref e))) (envOf name scope L a cd) n pos (notedBy (model prog w) ((A₀.deeper (envOf name scope L a cd)).mark (some (.ref e))) (envOf name scope L a cd) (cameBackBy (model prog w) (A₀.deeper (envOf name scope L a cd)) (envOf name scope L a cd) E)))
        { s' with heap := h', toks := tk })
    (hk : scope.kind = .function := by rfl) (hlo : (envOf name scope L a cd).kindOf n = some .local := by rfl) (hx : (envOf name scope L a cd).kindOf "Refusal" = some .globalImplicit := by rfl) :
    wpAny (model prog w) (A₀.deeper (envOf name scope L a cd)) (noteFrame (.ref e) (envOf name scope L a cd))
      (fun _ s₂ => wpAny (model prog w) (A₀.deeper (envOf name scope L a cd)) (setFlight (.ref e) none) (fun _ s₃ =>
        wpAny (model prog w) (A₀.deeper (envOf name scope L a cd)) (handleBy (.ref e) (envOf name scope L a cd) (.ExceptHandler (some (.Name "Refusal" np)) (some n) (b₀ :: suite) pos :: rest)) Q E s₃) E s₂) E s' := by
  obtain ⟨B, hG, hB, hen, hl, hn, ne, nd, W⟩ := R
  refine note_way (Around.frames_deeper K.stack) rfl hB hen hl W fun h₁ b1 l1 w1 u1 => ?_
  refine flight_way b1 l1 w1 fun h₂ b2 l2 w2 u2 => ?_
  obtain ⟨g₂, T₂, F₂, K₂⟩ := kts_ground K F hG b2 (u.trans (u1.trans u2))
  have X₂ := SB.X.keeps K₂.stays
  have P₂ := SB.T.keeps K₂.stays
  obtain ⟨nm, q, bs, sn, sub, ab, col, dd, k0, k1, k2, k3, k5, hC⟩ := ref_cls (X₂.keeps F₂.keep)
  obtain ⟨oe, vs, Tb, oT, ts, he, hc, hdx, hda, h1, hnT, hTe, hT, hdT, h3⟩ := id w2
  refine wpAny_handleBy_cons (codeAny_handlers_test (name_K F₂ X₂ (topRead_of P₂) ref_name ?_ hk hx (by decide))) (by intro q; cases q)
  refine wpAny_excMatches_sub_self hC he hc (by rfl) (codeAny_handlers_suite_as ?_)
  refine flight_way b2 l2 w2 fun h₃ b3 l3 w3 u3 => ?_
  obtain ⟨g₃, T₃, F₃, K₃⟩ := kts_ground K F hG b3 ((u.trans (u1.trans u2)).trans u3)
  obtain ⟨oe', vs', Tb', oT', ts', he', hc', hdx', hda', h1', hnT', hTe', hT', hdT', h3'⟩ := id w3
  have ne₃ : g₃.get? e = none := T₃.none_ _ (kts_none F.keep ne)
  have nd₃ : g₃.get? d = none := T₃.none_ _ (kts_none F.keep nd)
  obtain ⟨od, es, ep, e1, e2, e3⟩ := hn.keeps b3
  have hLd : d ≠ L := fun q => by
    obtain ⟨ob, _, _, hob, _⟩ := F.ns
    rw [← q, nd] at hob; cases hob
  have hLe : e ≠ L := fun q => by
    obtain ⟨ob, _, _, hob, _⟩ := F.ns
    rw [← q, ne] at hob; cases hob
  have N₃ : News g₃ L h₃ [(e, oe'), (d, od)] := fun q hq => by
    rcases List.mem_cons.mp hq with z | hq
    · subst z; exact ⟨he', hLe, ne₃⟩
    · obtain z := List.mem_singleton.mp hq
      subst z; exact ⟨e1, hLd, nd₃⟩
  refine stN F₃ N₃ (fun h₄ F₄ N₄ => ?_) hk hlo
  exact k h₄ g₃ _ oe' vs' T₃ F₄ .nil (N₄ _ (.head _)).1 hc' hda' hdx' ⟨od, es, ep, (N₄ _ (.tail _ (.head _))).1, e2, e3⟩ (SB.X.keeps K₃.stays) (SB.T.keeps K₃.stays)
end
end
-- part la
example : True := by
 w_top off
 exact True.intro
namespace T_la
theorem on_la : True := True.intro
end T_la
section
open T_rx T_ry T_rz T_wo T_do T_so T_ca T_vec T_nw T_cn T_la T_mem
noncomputable abbrev RetU (s : Shared) (outer : List Env) (Q : Value → Shared → Prop) (P : Value → Heap → Prop) : Prop :=
  ∀ v h' g' tk', KtsTurn (outer.filterMap (·.frame)) s.heap g' → Keeps g' h' → P v h' → Q v { s with heap := h', toks := tk' }
example : True := by
 (k_with "noteFrame ref" => ((fail_if_success (fail_if_success (have := @on_la))); ((k_here; (rename Hurled _ _ _ _ _ _ => hH9); (rename Heap.UpToSlots _ _ => hU9); k_dflt (refine' caught_ref ?kSB ?kK ?kF hH9 hU9 ?_ ?kk1 ?kk2 ?kk3; (case kSB => assumption); (case kK => exact Thru.below (by assumption)); (case kF => k_asm); (case kk1 => rfl); (case kk2 => rfl); (case kk3 => rfl); k_whole; intro h' g' tk oe vs T' F' N' hE hC hD hX hM X' P'; clear hH9 hU9; (try k_sweep))))))
 exact True.intro
example : True := by
 (k_with "getAttr ref" => ((fail_if_success (fail_if_success (have := @on_la))); ((k_here; (with_reducible refine (?_ : wpAny _ _ (getAttr (Value.ref _) ("message" : Str) _) _ _ _)); k_dflt (refine' load_ref ?kX ?kx ?kc ?kd ?kdx ?kn ?kh ?_; (case kX => exact Frag.In.keeps (by k_asm) (Fr.keep (by k_asm))); (case kx => assumption); (case kc => assumption); (case kd => assumption); (case kdx => assumption); (case kn => assumption); (case kh => rfl); k_whole; (try dsimp only); (try k_fold))))))
 exact True.intro
example : True := by
 (k_with "call ref" => ((fail_if_success (fail_if_success (have := @on_la))); ((k_here; (with_reducible refine (?_ : wpAny _ _ (call (Value.ref 312) _) _ _ _)); k_dflt (refine' side_option_ok ?kC ?kK ?kd ?ku ?kv ?_ ?_; (case kC => k_extra "ktr_rel"); (case kK => k_extra "top_caughtB"); (case kd => k_extra "ktr_unf"); (case ku => k_extra "kwd_rel"); (case kv => exact SideIs.keeps (Fr.keep (by k_asm)) (by assumption)); (k_whole; intro r9 hr9 v9 h9 tk9 keep9 e9; obtain ⟨t9, e9⟩ := e9; subst e9; have F9 := fr_on (by k_asm) keep9; have N9 := news_on (by k_asm) keep9; (try simp only [List.nil_append, List.cons_append, List.append_nil] at N9); clear keep9; (try dsimp only); (try k_fold)); rotate_left; (k_whole; intro hr9 h9 tk9 e9 dx9 tm9 H9 U9; (try dsimp only); (try k_fold)); rotate_right)))))
 exact True.intro
example : True := by
 (k_with "call ref" => ((fail_if_success (fail_if_success (have := @on_la))); ((k_here; (with_reducible refine (?_ : wpAny _ _ (call (Value.ref 283) _) _ _ _)); k_dflt (refine' digits_option_ok ?kC ?kK ?kd ?ku ?kv ?_ ?_; (case kC => k_extra "ktr_rel"); (case kK => k_extra "top_caughtB"); (case kd => k_extra "ktr_unf"); (case ku => k_extra "kwd_rel"); (case kv => exact WholeIs.keeps (Fr.keep (by k_asm)) (by assumption)); (k_whole; intro r9 hr9 hr91 hr92 v9 h9 tk9 keep9 e9; obtain ⟨t9, e9⟩ := e9; subst e9; have F9 := fr_on (by k_asm) keep9; have N9 := news_on (by k_asm) keep9; (try simp only [List.nil_append, List.cons_append, List.append_nil] at N9); clear keep9; (try dsimp only); (try k_fold)); rotate_left; (k_whole; intro hr9 h9 tk9 e9 dx9 tm9 H9 U9; (try dsimp only); (try k_fold)); rotate_right)))))
 exact True.intro
section
variable {prog : Program} {w : World} {p : Program} {loose : List Str} {mean : ExcName → Option Value} {mg mb : Str → Option Value} {dp un : Nat} {fs : Option (List Env)} {gd : Option (List Code)} {s : Shared} {Q E : Value → Shared → Prop} {base : Heap} {outer : List Env}
noncomputable def sideAns (out : Option Str) : Str := out.getD sideMsg
theorem asked_side_ok {v more : Value} {t : Tok} {out : Option Str}
    (C : Site w p loose mean mg mb s.heap) (SB : Site w p loose mean mg mb base) (K : Thru fs base outer s.heap) (hdd : dp + 9 < recursionLimit) (hu : un + 100 < cLine) (hv : SideIs w s.heap v out)
    (ret : RetU s outer Q fun v _ => ∃ tk, v = .str (sideAns out) tk) :
    wpAny (model prog w) (At dp un fs gd) (call (.ref 338) [.str (Str.ofString "side") t, v, more]) Q E s := by
  refine quietly ?_ ?_
  focus
    obtain ⟨X, T⟩ := C
    k_extra "tb_start"
    k_steps
    all_goals first
      | exact ret _ _ _ _ ‹KtsTurn _ _ _› (Fr.keep (by k_asm)) ⟨_, by rw [‹out = none›]; rfl⟩
      | exact ret _ _ _ _ .refl (Fr.keep (by k_asm)) ⟨_, by rw [‹out = some _›]; rfl⟩
  intro hf
  simpa only using (ensure_type_of% (quiet_coe hf (0 : Nat) (by exact rfl)) "" hf)
noncomputable def IntAns (o : Option Int) (msg : Str) (v : Value) : Prop := match o with | some r => ∃ tk, v = .int r tk | none => ∃ tk, v = .str msg tk
noncomputable def digAns (out : Option Int) : Option Int := match out with | some r => if 1 ≤ r ∧ r ≤ 22 then some r else none | none => none
theorem digAns_some {out : Option Int} {r : Int} (h : out = some r) (h1 : 1 ≤ r) (h2 : r ≤ 22) : digAns out = some r := by subst h; exact if_pos ⟨h1, h2⟩
theorem digAns_none {out : Option Int} (h : ∀ r, out = some r → r < 1 ∨ 22 < r) : digAns out = none := by
  cases out with
  | none => rfl
  | some r => exact if_neg fun q => by have := h r rfl; omega
theorem msg_width : (Str.ofString "invalid '" ++ Str.ofString "width" ++ Str.ofString "' argument") = Str.ofString "invalid 'width' argument" := by decide
theorem asked_digits_ok {v more : Value} {t : Tok} {out : Option Int}
    (C : Site w p loose mean mg mb s.heap) (SB : Site w p loose mean mg mb base) (K : Thru fs base outer s.heap) (hdd : dp + 9 < recursionLimit) (hu : un + 100 < cLine) (hv : WholeIs w s.heap 7 v out)
    (ret : RetU s outer Q fun v _ => IntAns (digAns out) (Str.ofString "invalid 'digits' argument") v) :
    wpAny (model prog w) (At dp un fs gd) (call (.ref 338) [.str (Str.ofString "digits") t, v, more]) Q E s := by
  refine quietly ?_ ?_
  focus
    obtain ⟨X, T⟩ := C
    k_extra "tb_start"
    k_steps
    all_goals first
      | exact ret _ _ _ _ ‹KtsTurn _ _ _› (Fr.keep (by k_asm)) (by rw [digAns_none (by assumption)]; exact ⟨_, rfl⟩)
      | exact ret _ _ _ _ .refl (Fr.keep (by k_asm)) (by rw [digAns_some ‹out = some _› (by assumption) (by assumption)]; exact ⟨_, rfl⟩)
  intro hf
  simpa only using (ensure_type_of% (quiet_coe hf (0 : Nat) (by exact rfl)) "" hf)
theorem asked_whole_ok {v : Value} {t t' : Tok} {u : Int} {out : Option Int}
    (C : Site w p loose mean mg mb s.heap) (SB : Site w p loose mean mg mb base) (K : Thru fs base outer s.heap) (hdd : dp + 9 < recursionLimit) (hu : un + 100 < cLine) (hv : WholeIs w s.heap u v out)
    (ret : RetU s outer Q fun v _ => IntAns out (Str.ofString "invalid 'width' argument") v) :
    wpAny (model prog w) (At dp un fs gd) (call (.ref 338) [.str (Str.ofString "whole") t, v, .int u t']) Q E s := by
  refine quietly ?_ ?_
  focus
    obtain ⟨X, T⟩ := C
    k_extra "tb_start"
    k_steps
    all_goals first
      | exact ret _ _ _ _ ‹KtsTurn _ _ _› (Fr.keep (by k_asm)) (by rw [‹out = none›, ← msg_width]; exact ⟨_, rfl⟩)
      | exact ret _ _ _ _ .refl (Fr.keep (by k_asm)) (by rw [‹out = some _›]; exact ⟨_, rfl⟩)
  intro hf
  simpa only using (ensure_type_of% (quiet_coe hf (0 : Nat) (by exact rfl)) "" hf)
end
end
-- part cl
example : True := by
 w_top off
 exact True.intro
namespace T_cl
theorem on_cl : True := True.intro
end T_cl
section
open T_cn T_cx T_vec T_lp T_cf T_cl T_mem
inductive LItemAt (w : World) (h : Heap) : Value → Option Str → Prop
  | vec {a l : Addr} {k : Str} {iv : Value} {y : Str} : VecAt w h a k l → h.IsList l [iv].toArray → ItemAt h k iv y → isAtom k = true → (k == Str.ofString "NULL") = false → (k == Str.ofString "symbol") = false → LItemAt w h (.ref a) (some y)
  | sym {a : Addr} {x : Str} : SymAt w h a x → LItemAt w h (.ref a) (some x)
  | long {a l : Addr} {k : Str} {u v : Value} : VecAt w h a k l → h.IsList l [u, v].toArray → isAtom k = true → (k == Str.ofString "symbol") = false → LItemAt w h (.ref a) none
inductive LItemsAt (w : World) (h : Heap) : List Value → List Str → Prop
  | nil : LItemsAt w h [] []
  | cons {v : Value} {y : Str} {vs : List Value} {ys : List Str} : LItemAt w h v (some y) → LItemsAt w h vs ys → LItemsAt w h (v :: vs) (y :: ys)
theorem LItemsAt.length {w : World} {h : Heap} : ∀ {vs : List Value} {ys : List Str}, LItemsAt w h vs ys → vs.length = ys.length
  | _, _, .nil => rfl
  | _, _, .cons _ r => congrArg (· + 1) r.length
theorem LItemsAt.get {w : World} {h : Heap} : ∀ {vs : List Value} {ys : List Str}, LItemsAt w h vs ys → ∀ {i : Nat} {v : Value}, vs[i]? = some v → ∃ y, ys[i]? = some y ∧ LItemAt w h v (some y)
  | _, _, .nil, i, v, e => by simp at e
  | _, _, .cons t _, 0, v, e => by cases e; exact ⟨_, rfl, t⟩
  | _, _, .cons _ r, i + 1, v, e => by
    obtain ⟨y, h1, h2⟩ := r.get (i := i) (v := v) (by simpa using e)
    exact ⟨y, by simpa using h1, h2⟩
theorem strsAre_one {zs : List Value} {y : Str} (h : StrsAre zs [y]) : ∃ t, zs = [.str y t] := by
  cases h with
  | cons _ t r => cases r; exact ⟨t, rfl⟩
noncomputable abbrev TextPost (s : Shared) (y : Str) (v : Value) (h' : Heap) : Prop := ∃ r t n, v = .ref r ∧ s.heap.get? r = none ∧ h'.get? r = some (listOf [.str y t].toArray n)
theorem ret_one {s : Shared} {Q : Value → Shared → Prop} {y : Str} (ret : Ret s Q (TextPost s y)) : Ret s Q (TextsPost s [y]) := fun v h' tk' k e => ret v h' tk' k (by
  obtain ⟨r, zs, n, e1, e2, e3, e4⟩ := e
  obtain ⟨t, rfl⟩ := strsAre_one e4
  exact ⟨r, t, n, e1, e2, e3⟩)
theorem cat_vec1_ok {prog : Program} {w : World} {p : Program} {loose : List Str} {mean : ExcName → Option Value} {mg mb : Str → Option Value} {dp un : Nat} {fs : Option (List Env)} {gd : Option (List Code)} {s : Shared} {Q E : Value → Shared → Prop} {a l : Addr} {k : Str} {iv : Value} {y : Str} {place : Value}
    (C : Site w p loose mean mg mb s.heap) (hd : dp + 13 < recursionLimit) (hu : un + 40 < cLine) (hv : VecAt w s.heap a k l) (hl : s.heap.IsList l [iv].toArray) (hi : ItemAt s.heap k iv y) (hk : isAtom k = true)
    (hk1 : (k == Str.ofString "NULL") = false) (hk2 : (k == Str.ofString "symbol") = false)
    (ret : Ret s Q (TextPost s y)) : wpAny (model prog w) (At dp un fs gd) (call (.ref 288) [.ref a, place]) Q E s :=
  cat_texts_atom_ok C hd hu hv hl (.cons hi .nil) hk hk1 hk2 (by simp) (ret_one ret)
theorem cat_sym1_ok {prog : Program} {w : World} {p : Program} {loose : List Str} {mean : ExcName → Option Value} {mg mb : Str → Option Value} {dp un : Nat} {fs : Option (List Env)} {gd : Option (List Code)} {s : Shared} {Q E : Value → Shared → Prop} {a : Addr} {x : Str} {place : Value}
    (C : Site w p loose mean mg mb s.heap) (hd : dp + 1 < recursionLimit) (hv : SymAt w s.heap a x)
    (ret : Ret s Q (TextPost s x)) : wpAny (model prog w) (At dp un fs gd) (call (.ref 288) [.ref a, place]) Q E s := cat_texts_sym_ok C hd hv (ret_one ret)
theorem SymAt.keeps {w : World} {h h' : Heap} {a : Addr} {x : Str} (q : Keeps h h') : SymAt w h a x → SymAt w h' a x
  | ⟨dx, kt, xt, t1, t2, t3, e1, e2⟩ => ⟨dx, kt, xt, t1, t2, t3, q _ _ e1, q _ _ e2⟩
example : True := by
 (k_with "call ref" => ((fail_if_success (fail_if_success (have := @on_cl))); ((k_here; (with_reducible refine (?_ : wpAny _ _ (call (Value.ref 288) _) _ _ _)); k_dflt (first | (refine' cat_vec1_ok ?kC ?kd ?ku ?kv ?kl ?ki ?k1 ?k2 ?k3 ?_; (case kv => k_extra "ktd_rel"); (case kl => k_extra "ktr_units"); (case ki => exact ItemAt.keeps (Fr.keep (by k_asm)) (by assumption)); (case k1 => assumption); (case k2 => assumption); (case k3 => assumption); (case ku => k_extra "kwd_rel")) | (refine' cat_sym1_ok ?kC ?kd ?kv ?_; (case kv => exact SymAt.keeps (Fr.keep (by k_asm)) (by assumption)))); (case kC => k_extra "ktr_rel"); (case kd => k_extra "ktr_unf"); k_whole; refine Ret.new2 (by k_asm) (by k_asm) ?_; intro r9 u9 u9' h9 tk9 o9 N9 F9; (try simp only [List.nil_append, List.cons_append, List.append_nil, AllNe, and_true] at o9); (try dsimp only); (try k_fold)))))
 exact True.intro
theorem extend_one {prog : Program} {w : World} {A : Around} {E : Value → Shared → Prop} {s : Shared} {h₀ : Heap} {L D b : Addr} {m : Str → Option Value} {news news' : List (Addr × Obj)} {zs : List Value} {x : Value} {n n2 : Nat} {Q : Value → Shared → Prop} (F : Fr h₀ L s.heap m) (N : News h₀ L s.heap news)
    (hb : (b, listOf [x].toArray n2) ∈ news) (hz : zs.length ≤ 1000) (U : Upd D (listOf zs.toArray n) (listOf (zs ++ [x]).toArray (n + 1)) news news')
    (h : ∀ h', Fr h₀ L h' m → News h₀ L h' news' → Q .none { s with heap := h' }) : wpAny (model prog w) A (call (.builtin "list.extend") [.ref D, .ref b]) Q E s := by
  have e16 : sizeLine = 16777216 := sizeLine_eq
  refine kl_extend F N hb (by simp) (by simp) U ?_ ?_ ?_ h
  · have : Builtin.List.listTooLong (zs.toArray.size + [x].toArray.size) = false := by
      simp only [List.size_toArray, List.length_cons, List.length_nil]
      unfold Builtin.List.listTooLong
      exact decide_eq_false (by omega)
    rw [this]; simp
  · simp only [List.toList_toArray]; omega
  · simp only [List.size_toArray, List.length_cons, List.length_nil]; omega
example : True := by
 (k_with "call builtin:list.extend" => ((fail_if_success (fail_if_success (have := @on_cl))); ((k_here; k_dflt (refine' extend_one ?kF ?kN ?kb ?kz ?kU ?_; (case kF => k_asm); (case kN => k_asm); (case kb => k_mem); (case kz => assumption); (case kU => k_upd); k_whole; intro h9 F9 N9; (try k_sweep))))))
 exact True.intro
example : True := by
 (k_with "call builtin:len" => ((fail_if_success (fail_if_success (have := @on_cl))); ((k_here; (with_reducible refine (?_ : wpAny _ _ (call (Value.builtin "len") [Value.ref _]) _ _ _)); k_dflt (first | (refine' kun_lenL (k := 1) ?kl ?kk ?kz ?_; (case kl => exact stays_list (Fr.keep (by k_asm)) (by assumption)); (case kk => exact rfl); (case kz => decide); k_whole) | (refine' kun_lenL (k := 2) ?kl ?kk ?kz ?_; (case kl => exact stays_list (Fr.keep (by k_asm)) (by assumption)); (case kk => exact rfl); (case kz => decide); k_whole))))))
 exact True.intro
theorem strsAre_length {vs : List Value} {ys : List Str} (h : StrsAre vs ys) : vs.length = ys.length := by
  induction h with
  | nil => rfl
  | cons _ _ _ ih => simp [ih]
end
-- part jf
example : True := by
 w_top off
 exact True.intro
namespace T_jf
theorem on_jf : True := True.intro
end T_jf
section
open T_cx T_lp T_jf T_mem
noncomputable def jsX (w : Int) (d : Str) (y : Str) : Str := if d = Str.ofString "right" then Txt.rjust y w else if d = Str.ofString "centre" then Txt.ljust (Txt.mul (Str.ofString " ") (Int.fdiv (w - y.length) 2) ++ y) w else Txt.ljust y w
theorem strsAre_get {vs : List Value} {ys : List Str} (h : StrsAre vs ys) : ∀ {i : Nat} {v : Value}, vs[i]? = some v → ∃ y t, ys[i]? = some y ∧ v = .str y t := by
  induction h with
  | nil => intro i v e; simp at e
  | cons y t _ ih =>
    intro i v e
    cases i with
    | zero => cases e; exact ⟨_, _, rfl, rfl⟩
    | succ i =>
      obtain ⟨y', t', h1, h2⟩ := ih (i := i) (v := v) (by simpa using e)
      exact ⟨y', t', by simpa using h1, h2⟩
theorem map_take_snoc {α β : Type} (f : α → β) {l : List α} {i : Nat} {y : α} (h : l[i]? = some y) : (l.take (i + 1)).map f = (l.take i).map f ++ [f y] := by rw [take_snoc h, List.map_append]; rfl
theorem strsAre_length' {vs : List Value} {ys : List Str} (h : StrsAre vs ys) : vs.length = ys.length := by
  induction h with
  | nil => rfl
  | cons _ _ _ ih => simp [ih]
theorem justified_right_ok {prog : Program} {w : World} {p : Program} {loose : List Str} {mean : ExcName → Option Value} {mg mb : Str → Option Value} {dp un : Nat} {fs : Option (List Env)} {gd : Option (List Code)} {s : Shared} {Q E : Value → Shared → Prop} {l : Addr} {vs : List Value} {ys : List Str} {wd : Int} {tw ts : Tok}
    (C : Site w p loose mean mg mb s.heap) (hd : dp + 3 < recursionLimit) (hl : s.heap.IsList l vs.toArray) (hi : StrsAre vs ys) (hs : vs.length ≤ 1000) (w0 : 0 ≤ wd) (w1 : wd ≤ 100)
    (ret : Ret s Q (TextsPost s (ys.map fun y => Txt.rjust y wd))) : wpAny (model prog w) (At dp un fs gd) (call (.ref 305) [.ref l, .int wd tw, .str (Str.ofString "right") ts]) Q E s := by
  refine quietly ?_ ?_
  focus
    obtain ⟨X, T⟩ := C
    have hi2 := hi
    k_extra "kd_adr"
    k_steps
    k_dflt (refine LCg.CompSrc.base (by rfl) (by k_asm) (by k_asm) hl (by rw [List.size_toArray]; exact Nat.le_trans hs (by decide)) ?_)
    intro g
    rw [List.size_toArray]
    refine comp_ind vs.length (fun i zs => StrsAre zs ((ys.take i).map fun y => Txt.rjust y wd)) .nil (Or.inl hl) ?_ ?_
    · intro i zs v I oI C oC D m₂ h tk E' hin hR hv hC hx F' N' off' ne'
      obtain ⟨y, t, hy, rfl⟩ := strsAre_get hi (v := v) (by simpa using hv)
      rw [map_take_snoc _ hy]
      (try simp only [LCg.Off3, and_true] at off')
      k_steps
      all_goals first | assumption | exact strsAre_snoc (by assumption)
    · intro zs hR
      rw [strsAre_length' hi, List.take_length] at hR
      unfold LCg.FinE
      intro D h tk F9 N9 o9
      exact ret_new (s := s) ret F9 N9 fun q1 q2 => ⟨_, _, _, rfl, q1, q2, hR⟩
  intro hf
  simpa only using (ensure_type_of% (quiet_coe hf (0 : Nat) (by exact rfl)) "" hf)
theorem justified_left_ok {prog : Program} {w : World} {p : Program} {loose : List Str} {mean : ExcName → Option Value} {mg mb : Str → Option Value} {dp un : Nat} {fs : Option (List Env)} {gd : Option (List Code)} {s : Shared} {Q E : Value → Shared → Prop} {l : Addr} {vs : List Value} {ys : List Str} {wd : Int} {tw ts : Tok}
    (C : Site w p loose mean mg mb s.heap) (hd : dp + 3 < recursionLimit) (hl : s.heap.IsList l vs.toArray) (hi : StrsAre vs ys) (hs : vs.length ≤ 1000) (w0 : 0 ≤ wd) (w1 : wd ≤ 100)
    (ret : Ret s Q (TextsPost s (ys.map fun y => Txt.ljust y wd))) : wpAny (model prog w) (At dp un fs gd) (call (.ref 305) [.ref l, .int wd tw, .str (Str.ofString "left") ts]) Q E s := by
  refine quietly ?_ ?_
  focus
    obtain ⟨X, T⟩ := C
    have hi2 := hi
    k_extra "kd_adr"
    k_steps
    k_dflt (refine LCg.CompSrc.base (by rfl) (by k_asm) (by k_asm) hl (by rw [List.size_toArray]; exact Nat.le_trans hs (by decide)) ?_)
    intro g
    rw [List.size_toArray]
    refine comp_ind vs.length (fun i zs => StrsAre zs ((ys.take i).map fun y => Txt.ljust y wd)) .nil (Or.inl hl) ?_ ?_
    · intro i zs v I oI C oC D m₂ h tk E' hin hR hv hC hx F' N' off' ne'
      obtain ⟨y, t, hy, rfl⟩ := strsAre_get hi (v := v) (by simpa using hv)
      rw [map_take_snoc _ hy]
      (try simp only [LCg.Off3, and_true] at off')
      k_steps
      all_goals first | assumption | exact strsAre_snoc (by assumption)
    · intro zs hR
      rw [strsAre_length' hi, List.take_length] at hR
      unfold LCg.FinE
      intro D h tk F9 N9 o9
      exact ret_new (s := s) ret F9 N9 fun q1 q2 => ⟨_, _, _, rfl, q1, q2, hR⟩
  intro hf
  simpa only using (ensure_type_of% (quiet_coe hf (0 : Nat) (by exact rfl)) "" hf)
end
-- part jc
example : True := by
 w_top off
 exact True.intro
namespace T_jc
theorem on_jc : True := True.intro
end T_jc
section
open T_jf T_lp T_jc T_mem
theorem justified_centre_ok {prog : Program} {w : World} {p : Program} {loose : List Str} {mean : ExcName → Option Value} {mg mb : Str → Option Value} {dp un : Nat} {fs : Option (List Env)} {gd : Option (List Code)} {s : Shared} {Q E : Value → Shared → Prop} {l : Addr} {vs : List Value} {ys : List Str} {wd : Int} {tw ts : Tok}
    (C : Site w p loose mean mg mb s.heap) (hd : dp + 3 < recursionLimit) (hl : s.heap.IsList l vs.toArray) (hi : StrsAre vs ys) (hs : vs.length ≤ 1000) (w0 : 0 ≤ wd) (w1 : wd ≤ 100) (hy0 : ∀ y ∈ ys, y.length ≤ 100)
    (ret : Ret s Q (TextsPost s (ys.map fun y => Txt.ljust (Txt.mul (Str.ofString " ") (Int.fdiv (wd - (y.length : Int)) 2) ++ y) wd))) : wpAny (model prog w) (At dp un fs gd) (call (.ref 305) [.ref l, .int wd tw, .str (Str.ofString "centre") ts]) Q E s := by
  refine quietly ?_ ?_
  focus
    obtain ⟨X, T⟩ := C
    have hi2 := hi
    k_extra "kd_adr"
    k_steps
    k_dflt (refine LCg.CompSrc.base (by rfl) (by k_asm) (by k_asm) hl (by rw [List.size_toArray]; exact Nat.le_trans hs (by decide)) ?_)
    intro g
    rw [List.size_toArray]
    refine comp_ind vs.length (fun i zs => StrsAre zs ((ys.take i).map fun y => Txt.ljust (Txt.mul (Str.ofString " ") (Int.fdiv (wd - (y.length : Int)) 2) ++ y) wd)) .nil (Or.inl hl) ?_ ?_
    · intro i zs v I oI C oC D m₂ h tk E' hin hR hv hC hx F' N' off' ne'
      obtain ⟨y, t, hy, rfl⟩ := strsAre_get hi (v := v) (by simpa using hv)
      rw [map_take_snoc _ hy]
      have hy1 := hy0 y (List.mem_of_getElem? hy)
      (try simp only [LCg.Off3, and_true] at off')
      k_steps
      all_goals first | assumption | exact strsAre_snoc (by assumption)
    · intro zs hR
      rw [strsAre_length' hi, List.take_length] at hR
      unfold LCg.FinE
      intro D h tk F9 N9 o9
      exact ret_new (s := s) ret F9 N9 fun q1 q2 => ⟨_, _, _, rfl, q1, q2, hR⟩
  intro hf
  simpa only using (ensure_type_of% (quiet_coe hf (0 : Nat) (by exact rfl)) "" hf)
theorem justified_none_ok {prog : Program} {w : World} {p : Program} {loose : List Str} {mean : ExcName → Option Value} {mg mb : Str → Option Value} {dp un : Nat} {fs : Option (List Env)} {gd : Option (List Code)} {s : Shared} {Q E : Value → Shared → Prop} {l : Addr} {wd : Int} {tw ts : Tok}
    (C : Site w p loose mean mg mb s.heap) (hd : dp + 3 < recursionLimit)
    (ret : Ret s Q fun v _ => v = .ref l) : wpAny (model prog w) (At dp un fs gd) (call (.ref 305) [.ref l, .int wd tw, .str (Str.ofString "none") ts]) Q E s := by
  refine quietly ?_ ?_
  focus
    obtain ⟨X, T⟩ := C
    k_extra "kd_adr"
    k_steps
    exact ret _ _ _ (Fr.keep (by assumption)) rfl
  intro hf
  simpa only using (ensure_type_of% (quiet_coe hf (0 : Nat) (by exact rfl)) "" hf)
end
-- part cr
example : True := by
 w_top off
 exact True.intro
namespace T_cr
theorem on_cr : True := True.intro
end T_cr
section
open T_fd T_cn T_cx T_vec T_lp T_cf T_cl T_rx T_ry T_rz T_wo T_cr T_mem
noncomputable def ClInv (place : Value) (ys : List Str) (n0 : Nat) (i : Nat) (m : Str → Option Value) (nx : List (Addr × Obj)) : Prop :=
  i ≤ n0 ∧ ∃ L zs n, nx = [(L, listOf zs.toArray n)] ∧ m "texts" = some (.ref L) ∧ m "place" = some place ∧ StrsAre zs (ys.take i)
noncomputable abbrev catMsg (n : Int) : Str := Str.ofString "argument " ++ Str.ofString (toString n) ++ Str.ofString " (type 'list') cannot be handled by 'cat'"
theorem str_empty_app (x : Str) : Str.empty ++ x = x := Str.empty_append x
theorem toString_len {n : Int} (h : n.natAbs < 1000) : (Str.ofString (toString n)).length ≤ 2000 := by
  have := int_text_len_1921 (i := n) (log_mid (by omega))
  omega
theorem joined3 {prog : Program} {w : World} {A : Around} {E : Value → Shared → Prop} {s : Shared} {env : Env} {c1 c2 : Str} {k1 k2 : Nat} {p1 p2 p3 pos : Pos} {e : Expr} {a : Int} {t : Tok} {Q : Value → Shared → Prop}
    (he : ∀ tk (Q : Value → Shared → Prop), Q (.int a t) { s with toks := tk } → wpAny (model prog w) A (eval e env) Q E { s with toks := tk }) (ha : a.natAbs < 1000) (h1 : c1.length ≤ 1000) (h2 : c2.length ≤ 1000)
    (h : ∀ tk tk', Q (.str (c1 ++ Str.ofString (toString a) ++ c2) tk) { s with toks := tk' }) :
    wpAny (model prog w) A (eval (.JoinedStr [.Constant (.str c1) k1 p1, .FormattedValue e (-1) none p2, .Constant (.str c2) k2 p3] pos) env) Q E s := by
  have e16 : sizeLine = 16777216 := sizeLine_eq
  have lt := toString_len ha
  have l1 : (c1 ++ Str.ofString (toString a)).length = c1.length + (Str.ofString (toString a)).length := Str.length_append ..
  have l2 : (c1 ++ Str.ofString (toString a) ++ c2).length = c1.length + (Str.ofString (toString a)).length + c2.length := by rw [Str.length_append, l1]
  refine JoinedStr_many (joinParts_cons (Calls.Constant_str ?_))
  refine ⟨by rw [str_empty_app]; omega, joinParts_cons (FormattedValue_plain (he _ _ (formatField_int_small (log_mid (by omega)) ?_)))⟩
  refine ⟨by rw [str_empty_app]; show (c1 ++ Str.ofString (toString a)).length ≤ _; omega, joinParts_cons (Calls.Constant_str ?_)⟩
  refine ⟨by rw [str_empty_app]; show (c1 ++ Str.ofString (toString a) ++ c2).length ≤ _; omega, joinParts_nil ?_ (by rw [str_empty_app]; show (c1 ++ Str.ofString (toString a) ++ c2).length ≤ _; omega)⟩
  rw [str_empty_app]
  exact h _ _
example : True := by
 (k_with "eval JoinedStr" => ((fail_if_success (fail_if_success (have := @on_cr))); ((k_here; k_dflt (refine' joined3 ?k1 ?k2 ?k3 ?k4 ?_; (case k2 => assumption); (case k1 => exact fun tk Q h => ldLoc (s := ⟨_, _, _, _, _⟩) (by k_asm) (by with_unfolding_all rfl) h); (case k3 => decide); (case k4 => decide); k_whole; intro tk1 tk2; (try dsimp only))))))
 exact True.intro
theorem cat_texts_list_ok {prog : Program} {w : World} {p : Program} {loose : List Str} {mean : ExcName → Option Value} {mg mb : Str → Option Value} {dp un : Nat} {fs : Option (List Env)} {gd : Option (List Code)} {s : Shared} {Q E : Value → Shared → Prop} {base : Heap} {outer : List Env} {a l : Addr} {vs tl : List Value} {ys : List Str} {pl : Int} {pt : Tok}
    (C : Site w p loose mean mg mb s.heap) (K : Thru fs base outer s.heap) (hd : dp + 14 < recursionLimit) (hu : un + 60 < cLine) (hv : VecAt w s.heap a (Str.ofString "list") l) (hl : s.heap.IsList l (vs ++ tl).toArray) (hi : LItemsAt w s.heap vs ys) (ht : tl = [] ∨ ∃ v, tl = [v] ∧ LItemAt w s.heap v none) (hs : vs.length ≤ 1000)
    (hp : pl.natAbs < 1000)
    (ret : tl = [] → Ret s Q (TextsPost s ys))
    (rs : tl ≠ [] → ∀ h' tk' e dx tm, Hurled s.heap outer e dx (.str (catMsg pl) tm) h' → s.heap.UpToSlots h' → E (.ref e) { s with heap := h', toks := tk' }) :
    wpAny (model prog w) (At dp un fs gd) (call (.ref 288) [.ref a, .int pl pt]) Q E s := by
  refine quietly ?_ ?_
  focus
    obtain ⟨X, T⟩ := C
    have hv0 := hv
    obtain ⟨dx, kt, t1, t2, t3, t4, t5, e1, e2⟩ := hv
    k_extra "kd_adr"
    k_steps
    (with_unfolding_all refine' fv_iter (fun i m nx => ClInv (.int pl pt) ys vs.length i m nx) ?k1 hl ?k2 ?k3 ?_ ?_ ?_; (case k1 => exact rfl); (case k2 => k_asm); (case k3 => exact cb_drop (by k_asm) (by intro q hq; rw [List.mem_singleton.mp hq]; k_mem)))
    · exact ⟨Nat.zero_le _, _, [], _, rfl, by with_unfolding_all rfl, by with_unfolding_all rfl, .nil⟩
    · rintro i v m₁ nx h tk I oI hv ⟨hin, L, zs, n, rfl, m1, m2, hz⟩ hI F₁ N₁
      have hI' : @Ne Nat L I := hI _ (.head _)
      clear hI
      (first | replace F₁ := kst2 (m := m₁) ⟨m1, m2⟩ F₁ | replace F₁ := kstu2 (m := m₁) ⟨m1, m2⟩ F₁)
      clear m1 m2
      simp only [List.cons_append, List.nil_append] at N₁
      by_cases hlast : i < vs.length
      · rw [List.getElem?_append_left hlast] at hv
        obtain ⟨y, hy, hA⟩ := hi.get hv
        have hzl : zs.length ≤ 1000 := by
          rw [strsAre_length hz, List.length_take, ← hi.length]; omega
        cases hA with
        | @vec a' l' k' iv _ b1 b2 b3 b4 b5 b6 =>
          have b7 := b1
          have b8 : k' ≠ Str.ofString "symbol" := by intro e; rw [e] at b6; exact absurd b6 (by decide +kernel)
          obtain ⟨dx', kt', u1, u2, u3, u4, u5, c1, c2⟩ := b1
          k_steps
          all_goals (refine fv_next [(L, _)] (by assumption) (by assumption) (by intro q hq; rw [List.mem_singleton.mp hq]; k_mem) (by k_mem) (by intro q hq; rw [List.mem_singleton.mp hq]; exact hI') ⟨hlast, L, _, _, rfl, by with_unfolding_all rfl, by with_unfolding_all rfl, by rw [take_snoc hy]; exact strsAre_snoc hz⟩)
        | @sym a' _ b1 =>
          have b7 := b1
          obtain ⟨dx', kt', xt', u1, u2, u3, c1, c2⟩ := b1
          k_steps
          all_goals (refine fv_next [(L, _)] (by assumption) (by assumption) (by intro q hq; rw [List.mem_singleton.mp hq]; k_mem) (by k_mem) (by intro q hq; rw [List.mem_singleton.mp hq]; exact hI') ⟨hlast, L, _, _, rfl, by with_unfolding_all rfl, by with_unfolding_all rfl, by rw [take_snoc hy]; exact strsAre_snoc hz⟩)
      · rw [List.getElem?_append_right (by omega)] at hv
        rcases ht with ht | ⟨lv, ht, hA⟩
        · rw [ht] at hv; simp at hv
        · rw [ht] at hv
          have hil : i - vs.length = 0 := by omega
          rw [hil] at hv
          obtain q9 := Option.some.inj hv
          subst q9
          have hne : tl ≠ [] := by rw [ht]; simp
          cases hA with
          | @long a' l' k' u v b1 b2 b5 b6 =>
            have b7 := b1
            have b8 : k' ≠ Str.ofString "symbol" := by intro e; rw [e] at b6; exact absurd b6 (by decide +kernel)
            have b9 : (k' != Str.ofString "symbol") = true := by simpa using b8
            obtain ⟨dx', kt', u1, u2, u3, u4, u5, c1, c2⟩ := b1
            k_steps
            k_extra "top_raise"
            exact fun h' tk' e dx H U => rs hne h' tk' e dx _ H U
    · rintro m₁ nx h tk ⟨hin, L, zs, n, rfl, m1, m2, hz⟩ F₁ N₁
      have htl : tl = [] := by
        cases tl with
        | nil => rfl
        | cons a b => rw [List.length_append, List.length_cons] at hin; omega
      rw [htl, List.append_nil, hi.length, List.take_length] at hz
      (first | replace F₁ := kst1 (m := m₁) m1 F₁ | replace F₁ := kstu1 (m := m₁) m1 F₁)
      clear m1 m2
      k_steps
      exact ret_new (s := s) (ret htl) (by assumption) (by assumption) fun q1 q2 => ⟨_, _, _, rfl, q1, q2, hz⟩
  intro hf
  simpa only using (ensure_type_of% (quiet_coe hf (0 : Nat) (by exact rfl)) "" hf)
end
-- part ck
example : True := by
 w_top off
 exact True.intro
namespace T_ck
theorem on_ck : True := True.intro
end T_ck
section
open T_ci T_cn T_cx T_vec T_lp T_cf T_cl T_cr T_rx T_ry T_rz T_wo T_do T_so T_ca T_la T_nw T_ck T_mem
inductive CatIs (w : World) (h : Heap) : Value → Option (List Str) → Prop
  | null {a : Addr} : NullAt w h a → CatIs w h (.ref a) (some [])
  | atom {a l : Addr} {k : Str} {vs : List Value} {ys : List Str} : VecAt w h a k l → h.IsList l vs.toArray → ItemsAt h k vs ys → isAtom k = true → (k == Str.ofString "NULL") = false → (k == Str.ofString "symbol") = false → vs.length ≤ 1000 → CatIs w h (.ref a) (some ys)
  | list {a l : Addr} {vs : List Value} {ys : List Str} : VecAt w h a (Str.ofString "list") l → h.IsList l vs.toArray → LItemsAt w h vs ys → vs.length ≤ 1000 → CatIs w h (.ref a) (some ys)
  | long {a l : Addr} {vs : List Value} {ys : List Str} {lv : Value} : VecAt w h a (Str.ofString "list") l → h.IsList l (vs ++ [lv]).toArray → LItemsAt w h vs ys → LItemAt w h lv none → vs.length ≤ 1000 → CatIs w h (.ref a) none
theorem NullAt.keeps {w : World} {h h' : Heap} {a : Addr} (k : Keeps h h') : NullAt w h a → NullAt w h' a
  | ⟨dx, kt, t1, t2, e1, e2⟩ => ⟨dx, kt, t1, t2, k _ _ e1, k _ _ e2⟩
theorem ItemsAt.keeps {h h' : Heap} {k : Str} (q : Keeps h h') {vs : List Value} {ys : List Str} (x : ItemsAt h k vs ys) : ItemsAt h' k vs ys := by
  induction x with
  | nil => exact .nil
  | cons a _ ih => exact .cons (a.keeps q) ih
theorem LItemAt.keeps {w : World} {h h' : Heap} (q : Keeps h h') {v : Value} {o : Option Str} : LItemAt w h v o → LItemAt w h' v o
  | .vec a b c d e f => .vec (a.keeps q) (stays_list q b) (c.keeps q) d e f
  | .sym a => .sym (a.keeps q)
  | .long a b c d => .long (a.keeps q) (stays_list q b) c d
theorem LItemsAt.keeps {w : World} {h h' : Heap} (q : Keeps h h') {vs : List Value} {ys : List Str} (x : LItemsAt w h vs ys) : LItemsAt w h' vs ys := by
  induction x with
  | nil => exact .nil
  | cons a _ ih => exact .cons (a.keeps q) ih
theorem CatIs.keeps {w : World} {h h' : Heap} (q : Keeps h h') {v : Value} {o : Option (List Str)} : CatIs w h v o → CatIs w h' v o
  | .null a => .null (a.keeps q)
  | .atom a b c d e f g => .atom (a.keeps q) (stays_list q b) (c.keeps q) d e f g
  | .list a b c d => .list (a.keeps q) (stays_list q b) (c.keeps q) d
  | .long a b c d e => .long (a.keeps q) (stays_list q b) (c.keeps q) (d.keeps q) e
section
variable {prog : Program} {w : World} {p : Program} {loose : List Str} {mean : ExcName → Option Value} {mg mb : Str → Option Value} {dp un : Nat} {fs : Option (List Env)} {gd : Option (List Code)} {s : Shared} {Q E : Value → Shared → Prop} {base : Heap} {outer : List Env}
theorem cat_texts_ok {v : Value} {out : Option (List Str)} {pl : Int} {pt : Tok}
    (C : Site w p loose mean mg mb s.heap) (K : Thru fs base outer s.heap) (hd : dp + 14 < recursionLimit) (hu : un + 60 < cLine) (hv : CatIs w s.heap v out) (hp : pl.natAbs < 1000)
    (ret : ∀ ys, out = some ys → Ret s Q (TextsPost s ys))
    (rs : out = none → ∀ h' tk' e dx tm, Hurled s.heap outer e dx (.str (catMsg pl) tm) h' → s.heap.UpToSlots h' → E (.ref e) { s with heap := h', toks := tk' }) :
    wpAny (model prog w) (At dp un fs gd) (call (.ref 288) [v, .int pl pt]) Q E s := by
  cases hv with
  | null a => exact cat_texts_null_ok C (by omega) a (ret _ rfl)
  | atom a b c d e f g => exact cat_texts_atom_ok C (by omega) (by omega) a b c d e f g (ret _ rfl)
  | list a b c d => exact cat_texts_list_ok (tl := []) C K hd hu a (by rw [List.append_nil]; exact b) c (.inl rfl) d hp (fun _ => ret _ rfl) fun h => absurd rfl h
  | long a b c d e => exact cat_texts_list_ok C K hd hu a b c (.inr ⟨_, rfl, d⟩) e hp (fun h => absurd h (by simp)) fun _ => rs rfl
example : True := by
 (k_with "call ref" => ((fail_if_success (fail_if_success (have := @on_ck))); ((k_here; (with_reducible refine (?_ : wpAny _ _ (call (Value.ref 288) _) _ _ _)); k_dflt (refine' cat_texts_ok ?kC ?kK ?kd ?ku ?kv ?kp ?_ ?_; (case kC => k_extra "ktr_rel"); (case kK => k_extra "top_caughtB"); (case kd => k_extra "ktr_unf"); (case ku => k_extra "kwd_rel"); (case kv => exact CatIs.keeps (Fr.keep (by k_asm)) (by assumption)); (case kp => assumption); (k_whole; intro r9 hr9 v9 h9 tk9 keep9 e9; obtain ⟨r8, zs8, n8, q8, e91, e92, e93⟩ := e9; subst q8; have e94 := kts_none (Fr.keep (by k_asm)) e91; have F9 := fr_on (by k_asm) keep9; have N9 := news_on (by k_asm) keep9; (try simp only [List.nil_append, List.cons_append, List.append_nil] at N9); (try dsimp only); (try k_fold)); rotate_left; (k_whole; intro hr9 h9 tk9 e9 dx9 tm9 H9 U9; (try dsimp only); (try k_fold)); rotate_right)))))
 exact True.intro
noncomputable def CatAns (s : Shared) (out : Option (List Str)) (msg : Str) (v : Value) (h' : Heap) : Prop := match out with
  | some ys => TextsPost s ys v h'
  | none => ∃ tk, v = .str msg tk
theorem asked_cat_ok {v : Value} {t pt : Tok} {pl : Int} {out : Option (List Str)}
    (C : Site w p loose mean mg mb s.heap) (SB : Site w p loose mean mg mb base) (K : Thru fs base outer s.heap) (hdd : dp + 16 < recursionLimit) (hu : un + 100 < cLine) (hv : CatIs w s.heap v out) (hp : pl.natAbs < 1000)
    (ret : RetU s outer Q (CatAns s out (catMsg pl))) :
    wpAny (model prog w) (At dp un fs gd) (call (.ref 338) [.str (Str.ofString "cat") t, v, .int pl pt]) Q E s := by
  refine quietly ?_ ?_
  focus
    obtain ⟨X, T⟩ := C
    k_extra "tb_start"
    k_steps
    all_goals first
      | exact ret _ _ _ _ ‹KtsTurn _ _ _› (Fr.keep (by k_asm)) (by rw [‹out = none›]; exact ⟨_, rfl⟩)
      | (rename out = some _ => hq9; exact ret _ _ _ _ .refl (Fr.keep (by k_asm)) (by subst hq9; exact ⟨_, _, _, rfl, by assumption, by assumption, by assumption⟩))
  intro hf
  simpa only using (ensure_type_of% (quiet_coe hf (0 : Nat) (by exact rfl)) "" hf)
end
end
-- part fo
example : True := by
 w_top off
 exact True.intro
namespace T_fo
theorem on_fo : True := True.intro
end T_fo
section
open T_vec T_nw T_cn T_fo T_mem
inductive FlagIs (w : World) (h : Heap) (u : Bool) : Value → Bool → Prop
  | none : FlagIs w h u .none u
  | null {a : Addr} : NullAt w h a → FlagIs w h u (.ref a) u
  | int {a l : Addr} : VecAt w h a "integer" l → FlagIs w h u (.ref a) u
  | lgl0 {a l : Addr} : VecAt w h a "logical" l → h.IsList l #[] → FlagIs w h u (.ref a) u
  | lglN {a l : Addr} {x : Value} : VecAt w h a "logical" l → h.IsList l [.none, x].toArray → FlagIs w h u (.ref a) u
  | lgl {a l : Addr} {b : Int} {t : Tok} {x : Value} : VecAt w h a "logical" l → h.IsList l [.int b t, x].toArray → FlagIs w h u (.ref a) (decide (b = 1))
theorem FlagIs.keeps {w : World} {h h' : Heap} {u : Bool} {v : Value} {b : Bool} (q : Keeps h h') : FlagIs w h u v b → FlagIs w h' u v b
  | .none => .none
  | .null a => .null (by obtain ⟨dx, kt, t1, t2, e1, e2⟩ := a; exact ⟨dx, kt, t1, t2, q _ _ e1, q _ _ e2⟩)
  | .int a => .int (a.keeps q)
  | .lgl0 a b => .lgl0 (a.keeps q) (stays_list q b)
  | .lglN a b => .lglN (a.keeps q) (stays_list q b)
  | .lgl a b => .lgl (a.keeps q) (stays_list q b)
example : True := by
 (k_with "call builtin:len" => ((fail_if_success (fail_if_success (have := @on_fo))); ((k_here; (with_reducible refine (?_ : wpAny _ _ (call (Value.builtin "len") [Value.ref _]) _ _ _)); k_dflt (first | (refine' kun_lenL (k := 2) ?kl ?kk ?kz ?_; (case kl => exact stays_list (Fr.keep (by k_asm)) (by assumption)); (case kk => exact rfl); (case kz => decide); k_whole) | (refine' kun_lenL (k := 0) ?kl ?kk ?kz ?_; (case kl => exact stays_list (Fr.keep (by k_asm)) (by assumption)); (case kk => exact rfl); (case kz => decide); k_whole))))))
 exact True.intro
section
variable {prog : Program} {w : World} {p : Program} {loose : List Str} {mean : ExcName → Option Value} {mg mb : Str → Option Value} {dp un : Nat} {fs : Option (List Env)} {gd : Option (List Code)} {s : Shared} {Q E : Value → Shared → Prop}
theorem flag_option_ok {v : Value} {u b : Bool}
    (C : Site w p loose mean mg mb s.heap) (hdd : dp + 1 < recursionLimit) (hv : FlagIs w s.heap u v b)
    (ret : Ret s Q fun v _ => v = .bool b) :
    wpAny (model prog w) (At dp un fs gd) (call (.ref 276) [v, .bool u]) Q E s := by
  refine quietly ?_ ?_
  focus
    obtain ⟨X, T⟩ := C
    cases hv with
    | none =>
      k_extra "tb_start"
      k_steps
      exact ret_bool (s := s) ret (Fr.keep (by assumption)) rfl
    | null hv =>
      obtain ⟨dx, kt, t1, t2, e1, e2⟩ := hv
      k_extra "tb_start"
      k_steps
      exact ret_bool (s := s) ret (Fr.keep (by assumption)) rfl
    | int hv =>
      obtain ⟨dx, kt, t1, t2, t3, t4, t5, e1, e2⟩ := hv
      k_extra "tb_start"
      k_steps
      exact ret_bool (s := s) ret (Fr.keep (by assumption)) rfl
    | lgl0 hv hl =>
      obtain ⟨dx, kt, t1, t2, t3, t4, t5, e1, e2⟩ := hv
      k_extra "tb_start"
      k_steps
      exact ret_bool (s := s) ret (Fr.keep (by assumption)) rfl
    | lglN hv hl =>
      obtain ⟨dx, kt, t1, t2, t3, t4, t5, e1, e2⟩ := hv
      k_extra "tb_start"
      k_steps
      exact ret_bool (s := s) ret (Fr.keep (by assumption)) rfl
    | lgl hv hl =>
      obtain ⟨dx, kt, t1, t2, t3, t4, t5, e1, e2⟩ := hv
      k_extra "tb_start"
      k_steps
      all_goals first
        | exact ret_bool (s := s) ret (Fr.keep (by assumption)) rfl
        | exact ret_bool (s := s) ret (Fr.keep (by assumption)) (by simp [*])
  intro hf
  simpa only using (ensure_type_of% (quiet_coe hf (0 : Nat) (by exact rfl)) "" hf)
end
end
-- part th
example : True := by
 w_top off
 exact True.intro
namespace T_th
theorem on_th : True := True.intro
end T_th
section
open T_th T_mem
theorem pop_first {prog : Program} {w : World} {A : Around} {E : Value → Shared → Prop} {s : Shared} {h₀ : Heap} {L D : Addr} {m : Str → Option Value} {news news' : List (Addr × Obj)} {n : Nat} {u : Tok} {y : Value} {vs : List Value} {Q : Value → Shared → Prop}
    (F : Fr h₀ L s.heap m) (N : News h₀ L s.heap news) (U : Upd D (listOf (y :: vs).toArray n) (listOf vs.toArray (n + 1)) news news') (hz : (y :: vs).length ≤ 1000)
    (h : ∀ h', Fr h₀ L h' m → News h₀ L h' news' → Q y { s with heap := h' }) : wpAny (model prog w) A (call (.builtin "list.pop") [.ref D, .int 0 u]) Q E s := by
  have e16 : sizeLine = 16777216 := sizeLine_eq
  refine kl_popAt (k := 0) (p := []) (q := vs) (y := y) F N (by decide) ?_ rfl U (by show (y :: vs).length ≤ sizeLine; omega) h
  unfold seqIndex?
  simp
example : True := by
 (k_with "call builtin:list.pop" => ((fail_if_success (fail_if_success (have := @on_th))); ((k_here; k_dflt (refine' pop_first ?kF ?kN ?kU ?kz ?_; (case kF => k_asm); (case kN => k_asm); (case kU => k_upd); (case kz => assumption); k_whole; intro h9 F9 N9; (try dsimp only [List.nil_append, List.cons_append] at N9))))))
 exact True.intro
theorem keep_but {h h' g : Heap} {sp : Addr} {x : Obj} (hg : hideAll h (([(sp, x)] : List (Addr × Obj)).map (·.1)) = g) (k : Keeps g h') : ∀ b o, b ≠ sp → h.get? b = some o → h'.get? b = some o := fun b o hb ho =>
  k b o (by subst hg; exact hideAll_get _ ho fun q => hb (List.mem_singleton.mp q))
section
variable {prog : Program} {w : World} {p : Program} {loose : List Str} {mean : ExcName → Option Value} {mg mb : Str → Option Value} {dp un : Nat} {fs : Option (List Env)} {gd : Option (List Code)} {s : Shared} {Q E : Value → Shared → Prop}
theorem law_thread_ok {sp : Addr} {vs : List Value} {ns : List Int} {n : Nat} {most : Int} {t : Tok}
    (C : SiteN w p loose mean mg mb s.heap [sp]) (hdd : dp + 1 < recursionLimit) (hu : un + 100 < cLine) (hsp : s.heap.get? sp = some (listOf vs.toArray n)) (hv : IntsAre vs ns) (hb : ∀ i ∈ ns, 0 ≤ i ∧ i < 163) (hs : vs.length ≤ 1000) (h0 : 0 < most) (h1 : most < 2 ^ 32)
    (ret : ∀ r t' vs' ns' n' h' tk', (∀ b o, b ≠ sp → s.heap.get? b = some o → h'.get? b = some o) → h'.get? sp = some (listOf vs'.toArray n') → IntsAre vs' ns' → (∀ i ∈ ns', 0 ≤ i ∧ i < 163) → vs'.length ≤ vs.length → 0 ≤ r → r < most → Q (.int r t') { s with heap := h', toks := tk' }) :
    wpAny (model prog w) (At dp un fs gd) (call (.ref 326) [.ref sp, .int most t]) Q E s := by
  refine quietly ?_ ?_
  focus
    have C' : SiteN w p loose mean mg mb s.heap (([(sp, listOf vs.toArray n)] : List (Addr × Obj)).map (·.1)) := C
    clear C
    have hn : ∀ q ∈ [(sp, listOf vs.toArray n)], s.heap.get? q.1 = some q.2 := fun q hq => by
      obtain rfl := List.mem_singleton.mp hq
      exact hsp
    cases hv with
    | nil =>
      k_extra "kwd_inv"
      k_steps
      exact ret _ _ _ _ _ _ _ (keep_but (by assumption) (Fr.keep (by assumption))) (News.get (by k_asm) (by k_mem)) .nil hb (Nat.le_refl _) (by omega) (by omega)
    | cons i ti hv =>
      obtain ⟨i0, i1⟩ := hb i (.head _)
      k_extra "kwd_inv"
      k_steps
      all_goals first
      | exact absurd ‹decide _ = true› (by simp)
      | exact ret _ _ _ _ _ _ _ (keep_but (by assumption) (Fr.keep (by assumption))) (News.get (by k_asm) (by k_mem)) hv (fun j hj => hb j (.tail _ hj)) (by simp) (Int.fmod_nonneg_of_pos _ h0) (Int.fmod_lt_of_pos _ h0)
  intro hf
  simpa only using (ensure_type_of% (quiet_coe hf (0 : Nat) (by exact rfl)) "" hf)
end
end
-- part ln
example : True := by
 w_top off
 exact True.intro
namespace T_ln
theorem on_ln : True := True.intro
end T_ln
section
open T_lp T_ln T_mem
noncomputable def FvEndN (h₀ : Heap) (L : Addr) (J : (Str → Option Value) → List (Addr × Obj) → Prop) (io : List (Addr × Obj)) (s₁ s₂ : Shared) : Prop :=
  ∃ h' tk m' news' nx, s₂ = { s₁ with heap := h', toks := tk } ∧ Fr h₀ L h' m' ∧ News h₀ L h' news' ∧ (∀ p ∈ nx, p ∈ news') ∧ (∀ q ∈ io, q ∈ news') ∧ (∀ p ∈ nx, ∀ q ∈ io, p.1 ≠ q.1) ∧ J m' nx
noncomputable def FvPostN (h₀ : Heap) (L : Addr) (J : (Str → Option Value) → List (Addr × Obj) → Prop) (io : List (Addr × Obj)) (s₁ : Shared) (Q : Flow → Shared → Prop) (f : Flow) (s₂ : Shared) : Prop :=
  match f with
  | .ret v => Q (.ret v) s₂
  | .brk => Q .next s₂
  | _ => FvEndN h₀ L J io s₁ s₂
theorem fn_next {h₀ h' : Heap} {L : Addr} {J : (Str → Option Value) → List (Addr × Obj) → Prop} {io : List (Addr × Obj)} {s₁ : Shared} {Q : Flow → Shared → Prop} {tk : Nat} {m' : Str → Option Value} {news' : List (Addr × Obj)} (nx : List (Addr × Obj))
    (F : Fr h₀ L h' m') (N : News h₀ L h' news') (hn : ∀ p ∈ nx, p ∈ news') (ho : ∀ q ∈ io, q ∈ news') (ha : ∀ p ∈ nx, ∀ q ∈ io, p.1 ≠ q.1) (hj : J m' nx) : FvPostN h₀ L J io s₁ Q .next { s₁ with heap := h', toks := tk } := ⟨h', tk, m', news', nx, rfl, F, N, hn, ho, ha, hj⟩
section
variable {prog : Program} {w : World} {A : Around} {E : Value → Shared → Prop} {s : Shared} {env : Env} {h₀ : Heap} {x : Str} {body : List Stmt} {Q : Flow → Shared → Prop}
theorem fn_iter {l : Addr} {ol : Obj} {vs : List Value} {k : Nat} {m₀ : Str → Option Value} {news0 news : List (Addr × Obj)} (J : Nat → (Str → Option Value) → List (Addr × Obj) → Prop)
    (hh : A.handled = none) (N0 : News h₀ env.locals s.heap news0) (hl : (l, ol) ∈ news0) (hol : ol = listOf vs.toArray k) (F : Fr h₀ env.locals s.heap m₀) (hn : ∀ p ∈ news, p ∈ news0) (hnl : ∀ p ∈ news, p.1 ≠ l) (hj : J 0 m₀ news)
    (turn : ∀ i v m₁ nx h tk I oI ol', vs[i]? = some v → J i m₁ nx → (∀ p ∈ nx, @Ne Nat p.1 I ∧ @Ne Nat p.1 l) → @Ne Nat I l → Fr h₀ env.locals h (fun y => if y = x then some v else m₁ y) → News h₀ env.locals h (nx ++ [(I, oI), (l, ol')]) →
      wpAny (model prog w) A (execs body env) (FvPostN h₀ env.locals (J (i + 1)) [(I, oI), (l, ol')] { s with heap := h, toks := tk } Q) E { s with heap := h, toks := tk })
    (done : ∀ m₁ nx h tk, J vs.length m₁ nx → Fr h₀ env.locals h m₁ → News h₀ env.locals h nx → Q .next { s with heap := h, toks := tk }) :
    wpAny (model prog w) A (pyIter (.ref l)) (fun it s₂ => LoopAtV prog w A h₀ env x body Q E it s₂) E s := by
  subst hol
  obtain ⟨hol1, hol2, hol3⟩ := N0 _ hl
  have hnow : s.heap.IsList l vs.toArray := ⟨_, hol1, rfl, _, rfl⟩
  have N : News h₀ env.locals s.heap news := fun p hp => N0 p (hn p hp)
  have hL : env.locals < s.heap.objs.size := F.ns.lt
  have hne : l ≠ s.heap.objs.size := Nat.ne_of_lt (Heap.lt_size hol1)
  have W := Walks.list (prog := prog) (w := w) hh s.heap.objs.size l hne vs.toArray
  rw [List.size_toArray] at W
  refine wpAny_pyIter_list hnow ⟨_, _, _, vs.length, _, _, m₀, news, fun i m nx => (∀ p ∈ nx, p.1 ≠ l) ∧ J i m nx, rfl, W, ?_, ?_, ?_, ⟨⟨_, Heap.get?_push_size _ rfl, rfl, rfl⟩, hnow.at fun o e => Heap.get?_push_of_some _ e⟩, F.push _, fun p hp => ⟨Heap.get?_push_of_some _ (N p hp).1, (N p hp).2⟩, ⟨hnl, hj⟩, ?_, ?_⟩
  · intro q
    simp only [List.mem_cons, List.not_mem_nil, or_false] at q
    rcases q with q | q
    · rw [q] at hL; exact Nat.lt_irrefl _ hL
    · exact hol2 q.symm
  · intro b hb
    rw [List.mem_singleton.mp hb]
    exact next_is_new F
  · intro p hp q
    have h1 := Heap.lt_size (N p hp).1
    rw [List.mem_singleton.mp q] at h1
    exact Nat.lt_irrefl _ h1
  · rintro i v m₁ nx s₁ own ⟨h, tk, rfl⟩ _ hP ⟨hJl, hJ⟩ hoff hown hget hall hst F₁ N₁
    obtain ⟨⟨oI, hoI, _⟩, ⟨ol, hol, _⟩⟩ := id hst
    have hI : (s.heap.objs.size, oI) ∈ own := hall _ (.head _) (next_is_new F) oI hoI
    have hl' : (l, ol) ∈ own := hall _ (.tail _ (.head _)) hol3 ol hol
    have htwo : ∀ p ∈ own, p = (s.heap.objs.size, oI) ∨ p = (l, ol) := by
      intro p hp
      have h2 := hown p hp
      have h3 := hget p hp
      simp only [List.mem_cons, List.not_mem_nil, or_false] at h2
      rcases h2 with h2 | h2
      · rw [h2] at h3
        exact .inl (Prod.ext h2 (Option.some.inj (h3.symm.trans hoI)))
      · rw [h2] at h3
        exact .inr (Prod.ext h2 (Option.some.inj (h3.symm.trans hol)))
    have hsep : ∀ p ∈ nx, @Ne Nat p.1 s.heap.objs.size ∧ @Ne Nat p.1 l := fun p hp => ⟨fun q => hoff p hp (List.mem_singleton.mpr q), hJl p hp⟩
    have N₂ : News h₀ env.locals h (nx ++ [(s.heap.objs.size, oI), (l, ol)]) := by
      intro p hp
      rcases List.mem_append.mp hp with hp | hp
      · exact N₁ p (List.mem_append_right _ hp)
      · rcases List.mem_cons.mp hp with hp | hp
        · rw [hp]; exact N₁ _ (List.mem_append_left _ hI)
        · rw [List.mem_singleton.mp hp]; exact N₁ _ (List.mem_append_left _ hl')
    refine wpAny_mono (turn i v m₁ nx h tk _ oI ol (by simpa using hP) hJ hsep (Ne.symm hne) F₁ N₂) (fun f s₂ p => ?_) fun _ _ e => e
    have fin : FvEndN h₀ env.locals (J (i + 1)) [(s.heap.objs.size, oI), (l, ol)] { s with heap := h, toks := tk } s₂ → LoopStepU h₀ env.locals [s.heap.objs.size] own (fun m nx => (∀ p ∈ nx, p.1 ≠ l) ∧ J (i + 1) m nx) { s with heap := h, toks := tk } .next s₂ := by
      rintro ⟨h', tk', m', news', nx', e, F', N', hn', ho, ha, hm⟩
      refine ⟨rfl, h', tk', m', nx', e, F', fun p hp => ?_, fun p hp q => ha p hp _ (.head _) (List.mem_singleton.mp q), fun p hp => ha p hp _ (.tail _ (.head _)), hm⟩
      rcases List.mem_append.mp hp with hp | hp
      · rcases htwo p hp with z | z
        · rw [z]; exact N' _ (ho _ (.head _))
        · rw [z]; exact N' _ (ho _ (.tail _ (.head _)))
      · exact N' _ (hn' p hp)
    cases f with
    | ret v => exact .ret p
    | brk => exact .brk p
    | next => exact .next (fin p)
    | cont => exact .cont (fin p)
  · intro h' tk m' news' F' N' _ hJ
    exact done m' news' h' tk hJ.2 F' N'
theorem fn_iterU {l : Addr} {ol : Obj} {vs : List Value} {k : Nat} {m₀ : Str → Option Value} {news0 news : List (Addr × Obj)} (J : Nat → (Str → Option Value) → List (Addr × Obj) → Prop)
    (hh : A.handled = none) (N0 : News h₀ env.locals s.heap news0) (hl : (l, ol) ∈ news0) (hol : ol = listOf vs.toArray k) (F : Fr h₀ env.locals s.heap m₀) (hn : ∀ p ∈ news, p ∈ news0) (hnl : ∀ p ∈ news, p.1 ≠ l) (hj : J 0 m₀ news)
    (turn : ∀ i v m₁ nx h gn dn tk os I oI ol', vs[i]? = some v → J i m₁ nx → (∀ p ∈ nx, @Ne Nat p.1 I ∧ @Ne Nat p.1 l) → @Ne Nat I l → Fr h₀ env.locals h (fun y => if y = x then some v else m₁ y) → News h₀ env.locals h (nx ++ [(I, oI), (l, ol')]) →
      wpAny (model prog w) A (execs body env) (fun f s₂ => f = .next ∧ FvEndN h₀ env.locals (J (i + 1)) [(I, oI), (l, ol')] ⟨h, gn, dn, tk, os⟩ s₂) E ⟨h, gn, dn, tk, os⟩)
    (done : ∀ m₁ nx h tk, J vs.length m₁ nx → Fr h₀ env.locals h m₁ → News h₀ env.locals h nx → Q .next { s with heap := h, toks := tk }) :
    wpAny (model prog w) A (pyIter (.ref l)) (fun it s₂ => LoopAtU prog w A h₀ env x body Q E it s₂) E s := by
  subst hol
  obtain ⟨hol1, hol2, hol3⟩ := N0 _ hl
  have hnow : s.heap.IsList l vs.toArray := ⟨_, hol1, rfl, _, rfl⟩
  have N : News h₀ env.locals s.heap news := fun p hp => N0 p (hn p hp)
  have hL : env.locals < s.heap.objs.size := F.ns.lt
  have hne : l ≠ s.heap.objs.size := Nat.ne_of_lt (Heap.lt_size hol1)
  have W := Walks.list (prog := prog) (w := w) hh s.heap.objs.size l hne vs.toArray
  rw [List.size_toArray] at W
  refine wpAny_pyIter_list hnow ⟨_, _, _, vs.length, _, _, m₀, news, fun i m nx => (∀ p ∈ nx, p.1 ≠ l) ∧ J i m nx, rfl, W, ?_, ?_, ?_, ⟨⟨_, Heap.get?_push_size _ rfl, rfl, rfl⟩, hnow.at fun o e => Heap.get?_push_of_some _ e⟩, F.push _, fun p hp => ⟨Heap.get?_push_of_some _ (N p hp).1, (N p hp).2⟩, ⟨hnl, hj⟩, ?_, ?_⟩
  · intro q
    simp only [List.mem_cons, List.not_mem_nil, or_false] at q
    rcases q with q | q
    · rw [q] at hL; exact Nat.lt_irrefl _ hL
    · exact hol2 q.symm
  · intro b hb
    rw [List.mem_singleton.mp hb]
    exact next_is_new F
  · intro p hp q
    have h1 := Heap.lt_size (N p hp).1
    rw [List.mem_singleton.mp q] at h1
    exact Nat.lt_irrefl _ h1
  · rintro i v m₁ nx ⟨h, gn, dn, tk, os⟩ own _ hP ⟨hJl, hJ⟩ hoff hown hget hall hst F₁ N₁
    obtain ⟨⟨oI, hoI, _⟩, ⟨ol, hol, _⟩⟩ := id hst
    have hI : (s.heap.objs.size, oI) ∈ own := hall _ (.head _) (next_is_new F) oI hoI
    have hl' : (l, ol) ∈ own := hall _ (.tail _ (.head _)) hol3 ol hol
    have htwo : ∀ p ∈ own, p = (s.heap.objs.size, oI) ∨ p = (l, ol) := by
      intro p hp
      have h2 := hown p hp
      have h3 := hget p hp
      simp only [List.mem_cons, List.not_mem_nil, or_false] at h2
      rcases h2 with h2 | h2
      · rw [h2] at h3
        exact .inl (Prod.ext h2 (Option.some.inj (h3.symm.trans hoI)))
      · rw [h2] at h3
        exact .inr (Prod.ext h2 (Option.some.inj (h3.symm.trans hol)))
    have hsep : ∀ p ∈ nx, @Ne Nat p.1 s.heap.objs.size ∧ @Ne Nat p.1 l := fun p hp => ⟨fun q => hoff p hp (List.mem_singleton.mpr q), hJl p hp⟩
    have N₂ : News h₀ env.locals h (nx ++ [(s.heap.objs.size, oI), (l, ol)]) := by
      intro p hp
      rcases List.mem_append.mp hp with hp | hp
      · exact N₁ p (List.mem_append_right _ hp)
      · rcases List.mem_cons.mp hp with hp | hp
        · rw [hp]; exact N₁ _ (List.mem_append_left _ hI)
        · rw [List.mem_singleton.mp hp]; exact N₁ _ (List.mem_append_left _ hl')
    refine wpAny_mono (turn i v m₁ nx h gn dn tk os _ oI ol (by simpa using hP) hJ hsep (Ne.symm hne) F₁ N₂) (fun f s₂ p => ?_) fun _ _ e => e
    have fin : FvEndN h₀ env.locals (J (i + 1)) [(s.heap.objs.size, oI), (l, ol)] ⟨h, gn, dn, tk, os⟩ s₂ → LoopStepU h₀ env.locals [s.heap.objs.size] own (fun m nx => (∀ p ∈ nx, p.1 ≠ l) ∧ J (i + 1) m nx) ⟨h, gn, dn, tk, os⟩ .next s₂ := by
      rintro ⟨h', tk', m', news', nx', e, F', N', hn', ho, ha, hm⟩
      refine ⟨rfl, h', tk', m', nx', e, F', fun p hp => ?_, fun p hp q => ha p hp _ (.head _) (List.mem_singleton.mp q), fun p hp => ha p hp _ (.tail _ (.head _)), hm⟩
      rcases List.mem_append.mp hp with hp | hp
      · rcases htwo p hp with z | z
        · rw [z]; exact N' _ (ho _ (.head _))
        · rw [z]; exact N' _ (ho _ (.tail _ (.head _)))
      · exact N' _ (hn' p hp)
    obtain ⟨rfl, p⟩ := p
    exact fin p
  · intro h' tk m' news' F' N' _ hJ
    exact done m' news' h' tk hJ.2 F' N'
theorem rg_iter {r : Addr} {b₀ : Int} {t₀ u₀ v₀ : Tok} {n : Nat} {m₀ : Str → Option Value} {news : List (Addr × Obj)} (J : Nat → (Str → Option Value) → List (Addr × Obj) → Prop)
    (hh : A.handled = none) (hr : IsRange s.heap r 0 b₀ 1 t₀ u₀ v₀) (hsmall : Builtin.Range.small 0 b₀ 1 = true) (hn : Builtin.Range.rangeSize 0 b₀ 1 = (n : Int)) (F : Fr h₀ env.locals s.heap m₀) (N : News h₀ env.locals s.heap news) (hj : J 0 m₀ news)
    (turn : ∀ i t m₁ nx h tk own, i < n → nx.map (·.1) = news.map (·.1) → OwnOff own (news.map (·.1)) → J i m₁ nx → Fr h₀ env.locals h (fun y => if y = x then some (.int (i : Int) t) else m₁ y) → News h₀ env.locals h (nx ++ own) →
      wpAny (model prog w) A (execs body env) (InvPostN h₀ env.locals (J (i + 1)) own (news.map (·.1)) { s with heap := h, toks := tk } Q) E { s with heap := h, toks := tk })
    (done : ∀ m₁ nx h tk, J n m₁ nx → Fr h₀ env.locals h m₁ → News h₀ env.locals h nx → Q .next { s with heap := h, toks := tk }) :
    wpAny (model prog w) A (pyIter (.ref r)) (fun it s₂ => LoopAtV prog w A h₀ env x body Q E it s₂) E s := by
  refine wpAny_pyIter_range hr hsmall ?_
  have W : Walks prog w A s.heap.objs.size [s.heap.objs.size] [s.heap.objs.size] n (fun i v => i < n ∧ ∃ t, v = .int (0 + i * 1) t)
      (fun i h => IsRangeIter h s.heap.objs.size (0 + (i : Nat) * 1) ((n : Int) - (i : Nat)) 1) := (Walks.range hh _ 0 1 n).bound
  refine loop_invN J W ?_ ?_ ?_ ?_ (by show IsRangeIter _ _ _ _ _; rw [hn]; simpa using Heap.get?_push_size _ rfl) (F.push _) (fun p hp => ⟨Heap.get?_push_of_some _ (N p hp).1, (N p hp).2⟩) hj ?_ ?_
  · intro hm
    exact absurd F.ns.lt ((List.mem_singleton.mp hm) ▸ Nat.lt_irrefl _)
  · intro b hb
    rw [List.mem_singleton.mp hb]
    exact next_is_new F
  · intro p hp hI
    exact absurd (Heap.lt_size (N p hp).1) ((List.mem_singleton.mp hI) ▸ Nat.lt_irrefl _)
  · intro p hp hI
    exact absurd (Heap.lt_size (N p hp).1) ((List.mem_singleton.mp hI) ▸ Nat.lt_irrefl _)
  · intro i v m₁ nx h tk own hi hP hadr hsep hJ F₁ N₁
    obtain ⟨_, t, rfl⟩ := hP
    rw [show (0 + (i : Int) * 1) = (i : Int) by omega] at F₁
    exact turn i t m₁ nx h tk own hi hadr hsep hJ F₁ N₁
  · exact done
end
end
-- part ts
example : True := by
 w_top off
 exact True.intro
namespace T_ts
theorem on_ts : True := True.intro
end T_ts
section
open T_lp T_ln T_cf T_ts T_mem
theorem intsAre_get : ∀ {vs : List Value} {ns : List Int}, IntsAre vs ns → ∀ {i : Nat} {v : Value}, vs[i]? = some v → ∃ a, ns[i]? = some a ∧ ∃ t, v = .int a t
  | _, _, .nil, i, v, e => by simp at e
  | _, _, .cons n t _, 0, v, e => by cases e; exact ⟨_, rfl, _, rfl⟩
  | _, _, .cons _ _ r, i + 1, v, e => by
    obtain ⟨y, h1, h2⟩ := intsAre_get r (i := i) (v := v) (by simpa using e)
    exact ⟨y, by simpa using h1, h2⟩
noncomputable def ThInv (k : Nat) (m : Str → Option Value) (nx : List (Addr × Obj)) : Prop :=
  ∃ S zs ms n, nx = [(S, listOf zs.toArray n)] ∧ m "spool" = some (.ref S) ∧ IntsAre zs ms ∧ (∀ j ∈ ms, (0 : Int) ≤ j ∧ j < 163) ∧ zs.length ≤ 10 * k
theorem intsAre_snoc {vs : List Value} {ns : List Int} {y : Int} {t : Tok} (h : IntsAre vs ns) : IntsAre (vs ++ [.int y t]) (ns ++ [y]) := by
  induction h with
  | nil => exact .cons _ _ .nil
  | cons y t _ ih => exact .cons _ _ ih
theorem snoc_bounds {ms : List Int} {a : Int} (hb : ∀ j ∈ ms, (0 : Int) ≤ j ∧ j < 163) : ∀ j ∈ ms ++ [Int.fmod a 163], (0 : Int) ≤ j ∧ j < 163 := fun j hj => by
  rcases List.mem_append.mp hj with h | h
  · exact hb j h
  · rw [List.mem_singleton.mp h]
    exact ⟨Int.fmod_nonneg_of_pos _ (by decide), Int.fmod_lt_of_pos _ (by decide)⟩
noncomputable def RgInv (S : Addr) (rest : List (Addr × Obj)) (i0 : Nat) (k : Nat) (m : Str → Option Value) (nx : List (Addr × Obj)) : Prop :=
  ∃ zs ms n a t, nx = (S, listOf zs.toArray n) :: rest ∧ m "spool" = some (.ref S) ∧ m "left" = some (.int a t) ∧ IntsAre zs ms ∧ (∀ j ∈ ms, (0 : Int) ≤ j ∧ j < 163) ∧ zs.length ≤ 10 * i0 + k
theorem th_brk {h₀ h' : Heap} {L S I D : Addr} {oI ol : Obj} {m' : Str → Option Value} {zs : List Value} {ms : List Int} {a : Int} {t : Tok} {n' i tk : Nat} {own : List (Addr × Obj)} {s₁ : Shared}
    (N : News h₀ L h' ((S, listOf (zs ++ [Value.int (Int.fmod a 163) t]).toArray n') :: (I, oI) :: (D, ol) :: own)) (F : Fr h₀ L h' m') (m1 : m' "spool" = some (.ref S)) (hz : IntsAre zs ms) (hb : ∀ j ∈ ms, (0 : Int) ≤ j ∧ j < 163) (hl : zs.length + 1 ≤ 10 * (i + 1)) (h1 : @Ne Nat S I) (h2 : @Ne Nat S D) :
    FvEndN h₀ L (fun m nx => ThInv (i + 1) m nx) [(I, oI), (D, ol)] s₁ { s₁ with heap := h', toks := tk } := by
  refine ⟨_, _, _, _, [(S, listOf (zs ++ [Value.int (Int.fmod a 163) t]).toArray n')], rfl, F, N, ?_, ?_, ?_, S, _, ms ++ [Int.fmod a 163], _, rfl, m1, intsAre_snoc hz, snoc_bounds hb, by rw [List.length_append, List.length_singleton]; omega⟩
  · intro q hq; rw [List.mem_singleton.mp hq]; exact .head _
  · intro q hq
    rcases List.mem_cons.mp hq with hq | hq
    · rw [hq]; exact .tail _ (.head _)
    · rw [List.mem_singleton.mp hq]; exact .tail _ (.tail _ (.head _))
  · intro q hq r hr
    rw [List.mem_singleton.mp hq]
    rcases List.mem_cons.mp hr with hr | hr
    · rw [hr]; exact h1
    · rw [List.mem_singleton.mp hr]; exact h2
theorem th_next {h₀ h' : Heap} {L S I D : Addr} {o0 oI ol : Obj} {m' : Str → Option Value} {zs : List Value} {ms : List Int} {a b : Int} {t tb : Tok} {n' i k tk : Nat} {own : List (Addr × Obj)} {s₁ : Shared}
    (N : News h₀ L h' ((S, listOf (zs ++ [Value.int (Int.fmod a 163) t]).toArray n') :: (I, oI) :: (D, ol) :: own)) (F : Fr h₀ L h' m') (m1 : m' "spool" = some (.ref S)) (m2 : m' "left" = some (.int b tb)) (hz : IntsAre zs ms) (hb : ∀ j ∈ ms, (0 : Int) ≤ j ∧ j < 163) (hl : zs.length + 1 ≤ 10 * i + (k + 1)) :
    InvEndN h₀ L (RgInv S [(I, oI), (D, ol)] i (k + 1)) own ([(S, o0), (I, oI), (D, ol)].map (·.1)) s₁ { s₁ with heap := h', toks := tk } := by
  refine InvEndN.intro (nx := [(S, listOf (zs ++ [Value.int (Int.fmod a 163) t]).toArray n'), (I, oI), (D, ol)]) F N ⟨_, ms ++ [Int.fmod a 163], _, _, _, rfl, m1, m2, intsAre_snoc hz, snoc_bounds hb, by rw [List.length_append, List.length_singleton]; omega⟩ rfl ?_ ?_
  · intro q hq
    rcases List.mem_cons.mp hq with hq | hq
    · rw [hq]; exact .head _
    · rcases List.mem_cons.mp hq with hq | hq
      · rw [hq]; exact .tail _ (.head _)
      · rw [List.mem_singleton.mp hq]; exact .tail _ (.tail _ (.head _))
  · intro q hq
    exact .tail _ (.tail _ (.tail _ hq))
theorem th_end {h₀ h' : Heap} {L S I D : Addr} {oI ol : Obj} {m' : Str → Option Value} {nx : List (Addr × Obj)} {i tk : Nat} {s₁ : Shared}
    (hJ : RgInv S [(I, oI), (D, ol)] i 10 m' nx) (F : Fr h₀ L h' m') (N : News h₀ L h' nx) (h1 : @Ne Nat S I) (h2 : @Ne Nat S D) :
    FvEndN h₀ L (fun m nx => ThInv (i + 1) m nx) [(I, oI), (D, ol)] s₁ { s₁ with heap := h', toks := tk } := by
  obtain ⟨zs, ms, n, a, ta, q2, m1, m2, hz, hb, hl⟩ := hJ
  subst q2
  refine ⟨_, _, _, _, [(S, listOf zs.toArray n)], rfl, F, N, ?_, ?_, ?_, S, _, ms, _, rfl, m1, hz, hb, by omega⟩
  · intro q hq; rw [List.mem_singleton.mp hq]; exact .head _
  · intro q hq
    rcases List.mem_cons.mp hq with hq | hq
    · rw [hq]; exact .tail _ (.head _)
    · rw [List.mem_singleton.mp hq]; exact .tail _ (.tail _ (.head _))
  · intro q hq r hr
    rw [List.mem_singleton.mp hq]
    rcases List.mem_cons.mp hr with hr | hr
    · rw [hr]; exact h1
    · rw [List.mem_singleton.mp hr]; exact h2
section
variable {prog : Program} {w : World} {p : Program} {loose : List Str} {mean : ExcName → Option Value} {mg mb : Str → Option Value} {dp un : Nat} {fs : Option (List Env)} {gd : Option (List Code)} {s : Shared} {Q E : Value → Shared → Prop}
theorem law_threads_ok {l : Addr} {vs : List Value} {ns : List Int}
    (C : Site w p loose mean mg mb s.heap) (hdd : dp + 1 < recursionLimit) (hu : un + 100 < cLine) (hl : s.heap.IsList l vs.toArray) (hi : IntsAre vs ns) (hs : vs.length ≤ 63)
    (ret : Ret s Q fun v h' => ∃ r zs ms n, v = .ref r ∧ s.heap.get? r = none ∧ h'.get? r = some (listOf zs.toArray n) ∧ IntsAre zs ms ∧ (∀ i ∈ ms, 0 ≤ i ∧ i < 163) ∧ zs.length ≤ 60) :
    wpAny (model prog w) (At dp un fs gd) (call (.ref 319) [.ref l]) Q E s := by
  refine quietly ?_ ?_
  focus
    obtain ⟨X, T⟩ := C
    k_extra "tb_start"
    k_steps
    rename_i sp h2 lt0 h1 hp D ws h0 F N hI hC hL hlt
    (with_unfolding_all refine' fn_iterU (news := [(sp, listOf [].toArray 0)]) (fun i m nx => ThInv i m nx) ?k1 N (.head _) rfl F ?k5 ?k6 ?_ ?_ ?_; (case k1 => exact rfl); (case k5 => exact fun q hq => by rw [List.mem_singleton.mp hq]; exact .tail _ (.head _)); (case k6 => exact fun q hq => by rw [List.mem_singleton.mp hq]; exact Nat.ne_of_lt hlt))
    · exact ⟨_, [], [], _, rfl, by with_unfolding_all rfl, .nil, fun _ h => (nomatch h), Nat.le_refl _⟩
    · rintro i v m₁ nx h gn dn tk os I oI ol' hv ⟨S, zs, ms, n, rfl, m1, hz, hb, hk⟩ hJI hIl F₁ N₁
      obtain ⟨a, ta, rfl, hi30⟩ : ∃ a t, v = .int a t ∧ i < 30 := by
        obtain ⟨a, ha, t, rfl⟩ := intsAre_get hI hv
        refine ⟨a, t, rfl, ?_⟩
        have := (List.getElem?_eq_some_iff.mp ha).1
        rw [hC] at this
        omega
      have hI1 : @Ne Nat S I := (hJI _ (.head _)).1
      have hI2 : @Ne Nat S _ := (hJI _ (.head _)).2
      clear hJI
      (first | replace F₁ := kst1 (m := m₁) m1 F₁ | replace F₁ := kstu1 (m := m₁) m1 F₁)
      clear m1
      simp only [List.cons_append, List.nil_append] at N₁
      (k_with "pyIter ref" => ((fail_if_success (fail_if_success (have := @on_ts))); ((k_here; with_reducible refine Held.go ?_))))
      k_steps
      all_goals unfold Held
      all_goals ((k_here; k_dflt (with_unfolding_all refine' rg_iter (n := 10) (news := [(S, listOf zs.toArray n), (I, oI), (D, ol')]) (RgInv S [(I, oI), (D, ol')] i) ?k1 (by assumption) ?k2 ?k3 ?k4 ?k5 ?k6 ?_ ?_; (case k1 => exact rfl); (case k2 => decide); (case k3 => decide); (case k4 => k_asm); (case k5 => k_asm); (case k6 => exact ⟨zs, ms, n, _, _, rfl, by with_unfolding_all rfl, by with_unfolding_all rfl, hz, hb, hk⟩); (intro k2 t2 m₂ nx2 h2 tk2 own2 hk2 hadr2 hsep2 hJ2 F₂ N₂; obtain ⟨zs2, ms2, n2, a2, ta2, q2, m1, m2, hz2, hb2, hl2⟩ := hJ2; subst q2; (first | replace F₂ := kst2 (m := m₂) ⟨m1, m2⟩ F₂ | replace F₂ := kstu2 (m := m₂) ⟨m1, m2⟩ F₂); clear m1 m2; simp only [List.cons_append, List.nil_append] at N₂))))
      all_goals k_steps
      all_goals first
        | (rename_i h8 F8 N8 tk8 h9 F9 N9 a9; rw [List.push_toArray] at N9; exact th_brk N9 F9 (by with_unfolding_all rfl) hz2 hb2 (by omega) hI1 hI2)
        | (rename_i h8 F8 N8 tk8 h9 F9 N9 a9; rw [List.push_toArray] at N9; exact th_next N9 F9 (by with_unfolding_all rfl) (by with_unfolding_all rfl) hz2 hb2 (by omega))
        | (rename_i hJ9 F9 N9; exact th_end hJ9 F9 N9 hI1 hI2)
    · rintro m₁ nx h tk ⟨S, zs, ms, n, rfl, m1, hz, hb, hk⟩ F₁ N₁
      have hzl : zs.length ≤ 300 := by
        have := hI.length
        rw [hC] at this
        omega
      (first | replace F₁ := kst1 (m := m₁) m1 F₁ | replace F₁ := kstu1 (m := m₁) m1 F₁)
      clear m1
      k_steps
      rename_i D9 ws9 h9 F9 N9 hI9 hC9 hL9 lt9
      refine ret_new (s := s) ret F9 N9 fun q1 q2 => ⟨D9, ws9, _, 0, rfl, q1, q2, hI9, fun j hj => hb j (List.mem_of_mem_take hj), ?_⟩
      have := hI9.length
      rw [hC9] at this
      omega
  intro hf
  simpa only using (ensure_type_of% (quiet_coe hf (0 : Nat) (by exact rfl)) "" hf)
end
end
-- part es
example : True := by
 w_top off
 exact True.intro
namespace T_es
theorem on_es : True := True.intro
end T_es
section
open T_es T_mem
theorem es_canLay : ∀ {ns : List Str}, (∀ y ∈ ns, PyData.strOk y = true) → PyData.canLayAll0 (ns.map PyData.str) = true
  | [], _ => rfl
  | y :: r, h => by simp [PyData.canLayAll0, PyData.canLay0, h y (.head _), es_canLay fun z hz => h z (.tail _ hz)]
theorem es_depth : ∀ ns : List Str, PyData.depthAll (ns.map PyData.str) = 0
  | [] => rfl
  | _ :: r => by simp [PyData.depthAll, PyData.depth, es_depth r]
theorem es_shaped {ns : List Str} (h : ∀ y ∈ ns, PyData.strOk y = true) : SeqAt.shaped (.list (ns.map PyData.str)) = true := by
  simp [SeqAt.shaped, PyData.canLay0, PyData.depth, es_canLay h, es_depth]
theorem es_sameAll : ∀ ns ms : List Str, PySem.Spec.sameAll (ns.map PyData.str) (ms.map PyData.str) = decide (ns = ms)
  | [], [] => by simp [PySem.Spec.sameAll]
  | [], _ :: _ => by simp [PySem.Spec.sameAll]
  | _ :: _, [] => by simp [PySem.Spec.sameAll]
  | a :: r, b :: t => by
    simp only [List.map_cons, PySem.Spec.sameAll, PySem.Spec.same, es_sameAll r t]
    by_cases h : a = b <;> by_cases h' : r = t <;> simp [h, h']
theorem es_carried : ∀ {vs : List Value} {ns : List Str}, StrsAre vs ns → CarriedAll vs (ns.map PyData.str)
  | _, _, .nil => .nil
  | _, _, .cons _ t r => .cons (.str _ t) (es_carried r)
theorem ne_strs {prog : Program} {w : World} {A : Around} {E : Value → Shared → Prop} {s : Shared} {a b : Addr} {xs ys : List Value} {ns ms : List Str} {Q : Value → Shared → Prop}
    (ha : s.heap.IsList a xs.toArray) (hb : s.heap.IsList b ys.toArray) (hi : StrsAre xs ns) (hj : StrsAre ys ms) (h1 : ∀ y ∈ ns, PyData.strOk y = true) (h2 : ∀ y ∈ ms, PyData.strOk y = true) (hu : A.units + 64 < cLine) (h : Q (.bool (!decide (ns = ms))) s) :
    wpAny (model prog w) A (compareOp .NotEq (.ref a) (.ref b)) Q E s :=
  ne_dataH_same (reads_newData ha (es_carried hi)) (reads_newData hb (es_carried hj)) (es_shaped h1) (es_shaped h2) hu (SeqAt.noMix_of_shape (.list .str) rfl _ _ (list_map_has fun _ => rfl) (list_map_has fun _ => rfl)) (by rw [PySem.Spec.same, es_sameAll]; exact h)
example : True := by
 (k_with "compareOp NotEq ref ref" => ((fail_if_success (fail_if_success (have := @on_es))); ((k_here; (with_reducible refine (?_ : wpAny _ _ (compareOp CmpOp.NotEq (Value.ref _) (Value.ref _)) _ _ _)); k_dflt (refine' ne_strs ?ka ?kb ?kc ?kd ?ke ?kf ?kg ?_; (case ka => k_extra "ktr_units"); (case kb => k_extra "ktr_units"); (case kc => k_extra "top_raise0"); (case kd => k_extra "top_raise0"); (case ke => k_extra "top_raiseB0"); (case kf => k_extra "top_raiseB0"); (case kg => k_extra "kwd_rel"); k_whole)))))
 exact True.intro
example : True := by
 (k_with "top_raise0" => ((fail_if_success (fail_if_success (have := @on_es))); (first | assumption | exact .nil | exact .cons _ _ .nil | exact .cons _ _ (by assumption) | exact .cons _ _ (.cons _ _ .nil))))
 exact True.intro
theorem noStr : ∀ y ∈ ([] : List Str), PyData.strOk y = true := fun _ h => nomatch h
example : True := by
 (k_with "top_raiseB0" => ((fail_if_success (fail_if_success (have := @on_es))); (first | assumption | exact noStr)))
 exact True.intro
end
-- part sf
example : True := by
 w_top off
 exact True.intro
namespace T_sf
theorem on_sf : True := True.intro
end T_sf
section
open T_es T_vec T_lp T_sf T_mem
open LCg LCt in
noncomputable def TupSrc (prog : Program) (w : World) (A : Around) (h₀ : Heap) (L : Addr) (m : Str → Option Value) (env : Env) (ct elt : Expr) (x : Str) (scope : Scope) (cl : List (Str × Addr)) (Fin : Shared → List Value → List (Addr × Obj) → Prop) (xv : Value) (s₁ : Shared) : Prop :=
  ∃ ax its k news, xv = .ref ax ∧ A.handled = none ∧ Fr h₀ L s₁.heap m ∧ News h₀ L s₁.heap news ∧ (ax, (⟨.type "tuple", none, .seq its k, #[]⟩ : Obj)) ∈ news ∧ its.size ≤ sizeLine ∧
    ∀ s₂ : Shared, (∃ h, s₂ = { s₁ with heap := h }) → CompRestT prog w A h₀ L m env ct elt x scope cl s₂ (fun nw => (ax, (⟨.type "tuple", none, .seq its k, #[]⟩ : Obj)) ∈ nw) (fun i v => its[i]? = some v) (Fin s₂) its.size 0 [] news
section
open LCg LCt Calls
variable {prog : Program} {w : World} {A : Around} {E : Value → Shared → Prop} {s : Shared} {h₀ : Heap} {L : Addr} {m : Str → Option Value} {env : Env}
theorem assign_comp_tuple {ct elt iter : Expr} {x y : Str} {px py : Pos} {scope : Scope} {cl : List (Str × Addr)} {pos spos : Pos} {Q : Flow → Shared → Prop} (F₀ : Fr h₀ L s.heap m) (hLe : env.locals = L)
    (hsw : swapsWith (.ListComp elt [⟨.Name x px, iter, [ct], 0⟩] scope pos) (some (.Name y py)) spos.line env = pure true)
    (hclos : closureFor scope env = pure cl) (hcell : ∀ z ∈ scope.names, z.2 ≠ .cell) (hkind : scope.kind = .function)
    (hnames : ∀ z ∈ scope.names, z.2 = .local → scope.names.lookup z.1 = some .local) (hx : scope.names.lookup x = some .local)
    (hy : env.kindOf y = some .local) (hp : (env.scope.kind == .class || (env.scope.kind == .module && env.locals != env.globals)) = false)
    (h : wpAny (model prog w) A (eval iter env) (TupSrc prog w A h₀ L m env ct elt x scope cl (fun s₂ => FinA h₀ L m s₂ y Q)) E s)
    (hs : ∀ x, foldedSetIterable iter env x = pure x := by intro _; rfl) :
    wpAny (model prog w) A (exec (.Assign [.Name y py] (.ListComp elt [⟨.Name x px, iter, [ct], 0⟩] scope pos) spos) env) Q E s := by
  refine quietly ?_ ?_
  focus
    subst hLe
    rw [exec_Assign_Name_used _ _ _ _ hsw]
    refine wpAny_bind (wpAny_standAt (wpAny_bind ?_))
    show wpAny _ A (do let _ ← comprehension (.ListComp elt [⟨.Name x px, iter, [ct], 0⟩] scope pos) scope env _ (newList []) false (eval iter env) (some (assign (.Name y py) env))) _ _ s
    refine wpAny_bind (wpAny_mono (wpAny_comprehension_free (use := some (assign (.Name y py) env)) (Q := fun _ s' => Q .next s') rfl hs hclos hkind hnames
      (wpAny_mono h (fun xv s₁ h₁ => ?_) fun _ _ e => e)) (fun _ s' hq => wpAny_pure (wpAny_pure hq)) fun _ _ e => e)
    obtain ⟨ax, its, k, news, rfl, hh, F, N, hm, hsz, R⟩ := h₁
    have hl : s₁.heap.IsTuple ax its := ⟨_, (N _ hm).1, rfl, _, rfl⟩
    have hlt : ax < s₁.heap.objs.size := Heap.lt_size (N _ hm).1
    refine wpAny_pyIter_tuple hl ?_
    have up : ∀ b o, s₁.heap.get? b = some o → (s₁.heap.push { cls := .type "tuple_iterator", data := .fields #[.ref ax, .int 0 0] }).get? b = some o := fun b o e => Heap.get?_push_of_some _ e
    refine block_T (Walks.tuple hh s₁.heap.objs.size ax (Nat.ne_of_lt hlt) its) hsz (fun i h st => by obtain ⟨o, e, _⟩ := st.1; exact ⟨o, e⟩)
      (fun i h h' o nw st e e' _ N' S' => ⟨by obtain ⟨o', q, r⟩ := st.1; rw [e] at q; cases q; exact ⟨o, e', r⟩, ⟨_, (N' _ S').1, rfl, _, rfl⟩⟩) hcell hkind hx ⟨⟨_, Heap.get?_push_size _ rfl, rfl, rfl⟩, ⟨_, up _ _ (N _ hm).1, rfl, _, rfl⟩⟩ (fun b hb => ?_)
      (F.keeps up) (N.grown up) (Nat.ne_of_lt F.ns.lt) (next_is_new F) (fun p hp => Nat.ne_of_lt (Heap.lt_size (N p hp).1)) hm (R _ ⟨_, rfl⟩) ?_
    · show b < (s₁.heap.push _).objs.size
      rw [Heap.size_push]
      rcases List.mem_cons.mp hb with q | hb
      · rw [q]; exact Nat.lt_succ_self _
      · rw [List.mem_singleton.mp hb]; exact Nat.lt_succ_of_lt hlt
    · intro D C h' tk m' ys news' F' N' o1 hn hC₀ hD₀ hCL hDL hCD offC fin
      show wpAny _ A (assign (.Name y py) env (.ref D)) _ _ _
      refine wpAny_assign_Name (wpAny_storeName_local hy F'.ns (fun h₂ hn₂ hs₂ => ?_) hp)
      have hL₀ : h₀.get? env.locals = none := Heap.get?_none_of_le F'.above
      have F₂ : Fr h₀ env.locals h₂ (fun z => if z = y then some (.ref D) else m z) := ⟨hn₂, fun b o e => hs₂.extBut b o (fun q => by rw [q, hL₀] at e; cases e) (F'.keep b o e), F'.above⟩
      refine ⟨m', hn.sameBut hs₂ hCL, fun h'' hs'' => fin D h'' _ (F₂.change hs'' hCL hC₀) (fun p hp => ?_) o1⟩
      have z : h₂.get? p.1 = some p.2 := hs₂.extBut _ _ (N' p hp).2.1 (N' p hp).1
      refine ⟨hs''.extBut _ _ ?_ z, (N' p hp).2⟩
      rcases List.mem_cons.mp hp with q | hp
      · rw [q]; exact Ne.symm hCD
      · exact offC p hp
  intro hf
  simpa only using (ensure_type_of% (quiet_coe hf (0 : Nat) (by exact rfl)) "" hf)
end
example : True := by
 (k_with "exec Assign cons ListComp" => ((fail_if_success (fail_if_success (have := @on_sf))); ((k_here; k_dflt (refine assign_comp_tuple (F₀ := by k_asm) (by rfl) (by with_unfolding_all rfl) (by with_unfolding_all rfl) (by decide) (by rfl) (by decide) (by rfl) (by rfl) (by rfl) ?_)))))
 exact True.intro
section
open LCg LCt
variable {prog : Program} {w : World} {A : Around} {s : Shared} {h₀ : Heap} {L : Addr} {m : Str → Option Value} {env : Env} {ct elt : Expr} {x : Str} {scope : Scope} {cl : List (Str × Addr)} {S : List (Addr × Obj) → Prop} {P : Nat → Value → Prop} {Fin : List Value → List (Addr × Obj) → Prop}
theorem comp_indT {news : List (Addr × Obj)} (n : Nat) (R : Nat → List Value → Prop) (h0 : R 0 []) (hS : S news)
    (turn : ∀ i ys v I oI C oC D m₂ h tk (E' : Value → Shared → Prop), i < n → R i ys → P i v → NsObj oC m₂ → m₂ x = some v → Fr h₀ L h m → News h₀ L h ((I, oI) :: (C, oC) :: (D, lst ys) :: news) → Off3 I C D news → ((@Ne Nat I C) ∧ (@Ne Nat I D) ∧ (@Ne Nat C D)) →
      wpAny (model prog w) A (isTrue ct (compEnvC scope cl C env) (eval ct (compEnvC scope cl C env))) (fun ok s' => if ok = true then
        wpAny (model prog w) A (eval elt (compEnvC scope cl C env)) (fun y s₂ => ∃ h' tk', s₂ = { s with heap := h', toks := tk' } ∧ Fr h₀ L h' m ∧ News h₀ L h' ((I, oI) :: (C, oC) :: (D, lst ys) :: news) ∧ R (i + 1) (ys ++ [y])) E' s'
        else ∃ h' tk', s' = { s with heap := h', toks := tk' } ∧ Fr h₀ L h' m ∧ News h₀ L h' ((I, oI) :: (C, oC) :: (D, lst ys) :: news) ∧ R (i + 1) ys) E' { s with heap := h, toks := tk })
    (fin : ∀ ys, R n ys → Fin ys news) : CompRestT prog w A h₀ L m env ct elt x scope cl s S P Fin n 0 [] news := by
  have all : ∀ k i ys, i + k = n → R i ys → CompRestT prog w A h₀ L m env ct elt x scope cl s S P Fin k i ys news := by
    intro k
    induction k with
    | zero => intro i ys hi hR; rw [Nat.add_zero] at hi; subst hi; exact fin ys hR
    | succ k ih =>
      intro i ys hi hR
      refine CompRestT.succ fun v I oI C oC D m₂ h tk E' hv hC hx F N off ne => ?_
      refine wpAny_mono (turn i ys v I oI C oC D m₂ h tk E' (by omega) hR hv hC hx F N off ne) (fun ok s₂ q => ?_) fun _ _ e => e
      cases ok with
      | true =>
        rw [if_pos rfl] at q ⊢
        refine wpAny_mono q (fun y s₃ r => ?_) fun _ _ e => e
        obtain ⟨h', tk', e, F', N', r⟩ := r
        exact ⟨h', tk', news, e, F', N', off, hS, ih (i + 1) (ys ++ [y]) (by omega) r⟩
      | false =>
        rw [if_neg Bool.false_ne_true] at q ⊢
        obtain ⟨h', tk', e, F', N', r⟩ := q
        exact ⟨h', tk', news, e, F', N', off, hS, ih (i + 1) ys (by omega) r⟩
  exact all n 0 [] (Nat.zero_add n) h0
end
noncomputable def sidesL : List Str := [Str.ofString "left", Str.ofString "right", Str.ofString "centre", Str.ofString "none"]
theorem sides_ok : ∀ y ∈ sidesL, PyData.strOk y = true := by decide +kernel
noncomputable def sofF (x y : Str) : Bool := Txt.slice y none (some (x.length : Int)) == x
noncomputable def sofTw (x : Str) : Str := match sidesL.filter (sofF x) with | [] => Str.ofString "refused" | y :: _ => y
theorem filter_snoc {α : Type} {l : List α} {i : Nat} {y : α} (f : α → Bool) (h : l[i]? = some y) : (l.take (i + 1)).filter f = (l.take i).filter f ++ (if f y = true then [y] else []) := by
  rw [List.take_add_one, h, List.filter_append]
  cases hf : f y <;> simp [hf]
section
variable {prog : Program} {w : World} {p : Program} {loose : List Str} {mean : ExcName → Option Value} {mg mb : Str → Option Value} {dp un : Nat} {fs : Option (List Env)} {gd : Option (List Code)} {s : Shared} {Q E : Value → Shared → Prop}
theorem side_of_1 {x : Str} {t : Tok}
    (C : Site w p loose mean mg mb s.heap) (hdd : dp + 3 < recursionLimit) (hu : un + 100 < cLine) (hx : x.length ≤ 100) (h0 : (x == Str.ofString "") = false)
    (ret : Ret s Q fun v _ => ∃ tk, v = .str (sofTw x) tk) :
    wpAny (model prog w) (At dp un fs gd) (call (.ref 331) [.str x t]) Q E s := by
  refine quietly ?_ ?_
  focus
    obtain ⟨X, T⟩ := C
    k_extra "kd_adr"
    k_steps
    k_dflt (refine ⟨_, _, _, _, rfl, by rfl, by k_asm, by k_asm, by k_mem, by exact Nat.le_of_ble_eq_true rfl, ?_⟩)
    rintro _ ⟨g9, rfl⟩
    refine comp_indT 4 (fun i zs => StrsAre zs ((sidesL.take i).filter (sofF x))) .nil (by k_mem) ?_ ?_
    · intro i zs v I oI C oC D m₂ h tk E' hin hR hv hC hm F' N' off' ne'
      obtain ⟨y, ty, rfl, hy, hyl⟩ : ∃ y ty, v = .str y ty ∧ sidesL[i]? = some y ∧ y.length ≤ 6 := by
        have h4 : i = 0 ∨ i = 1 ∨ i = 2 ∨ i = 3 := by omega
        rcases h4 with q | q | q | q <;> subst q <;> cases hv <;> exact ⟨_, _, rfl, rfl, by decide⟩
      rw [filter_snoc _ hy]
      (try simp only [LCg.Off3, and_true] at off')
      k_steps
      all_goals try assumption
      · rename (Txt.slice _ _ _ == _) = true => hq9
        rw [if_pos (show sofF x y = true from hq9)]
        exact strsAre_snoc hR
      · rename (Txt.slice _ _ _ == _) = false => hq9
        rw [if_neg (by rw [show sofF x y = false from hq9]; exact Bool.false_ne_true), List.append_nil]
        exact hR
    · intro zs hR
      have hok : ∀ y ∈ sidesL.filter (sofF x), PyData.strOk y = true := fun y hy => by
        exact sides_ok y (List.mem_filter.mp hy).1
      have hR' : StrsAre zs (sidesL.filter (sofF x)) := hR
      clear hR
      unfold sofTw at ret
      generalize sidesL.filter (sofF x) = fl at hR' hok ret
      unfold LCg.FinA
      intro D h tk F9 N9 o9
      cases hR' with
      | nil =>
        k_steps
        exact ret_str (s := s) ret (Fr.keep (by assumption)) rfl
      | cons y ty hR' =>
        k_steps
        · exact absurd ‹decide _ = true› (by simp)
        · exact ret_str (s := s) ret (Fr.keep (by assumption)) rfl
  intro hf
  simpa only using (ensure_type_of% (quiet_coe hf (0 : Nat) (by exact rfl)) "" hf)
noncomputable abbrev refusedS : Str := Str.ofString "refused"
noncomputable def sofAns (x : Str) : Str := if (x == Str.ofString "") = true then refusedS else sofTw x
theorem side_of_none
    (C : Site w p loose mean mg mb s.heap) (hdd : dp + 3 < recursionLimit)
    (ret : Ret s Q fun v _ => ∃ tk, v = .str refusedS tk) :
    wpAny (model prog w) (At dp un fs gd) (call (.ref 331) [.none]) Q E s := by
  refine quietly ?_ ?_
  focus
    obtain ⟨X, T⟩ := C
    k_extra "kd_adr"
    k_steps
    exact ret_str (s := s) ret (Fr.keep (by assumption)) rfl
  intro hf
  simpa only using (ensure_type_of% (quiet_coe hf (0 : Nat) (by exact rfl)) "" hf)
theorem side_of_ok {x : Str} {t : Tok}
    (C : Site w p loose mean mg mb s.heap) (hdd : dp + 3 < recursionLimit) (hu : un + 100 < cLine) (hx : x.length ≤ 100)
    (ret : Ret s Q fun v _ => ∃ tk, v = .str (sofAns x) tk) :
    wpAny (model prog w) (At dp un fs gd) (call (.ref 331) [.str x t]) Q E s := by
  refine quietly ?_ ?_
  focus
    by_cases h0 : (x == Str.ofString "") = true
    · rw [show sofAns x = refusedS from if_pos h0] at ret
      have hx0 : x = Str.ofString "" := by simpa using h0
      subst hx0
      obtain ⟨X, T⟩ := C
      k_extra "kd_adr"
      k_steps
      exact ret_str (s := s) ret (Fr.keep (by assumption)) rfl
    · rw [show sofAns x = sofTw x from if_neg h0] at ret
      exact side_of_1 C hdd hu hx (by simpa using h0) ret
  intro hf
  simpa only using (ensure_type_of% (quiet_coe hf (0 : Nat) (by exact rfl)) "" hf)
end
end
-- part fl
example : True := by
 w_top off
 exact True.intro
namespace T_fl
theorem on_fl : True := True.intro
end T_fl
section
open T_nw T_fl T_mem
noncomputable def filA (side : Str) (lacks : Int) : Int := if side = Str.ofString "left" then 0 else if side = Str.ofString "right" then lacks else Int.fdiv lacks 2
theorem filA_left {l : Int} : filA (Str.ofString "left") l = 0 := if_pos rfl
theorem filA_right {l : Int} : filA (Str.ofString "right") l = l := by unfold filA; rw [if_neg (by decide +kernel), if_pos rfl]
theorem filA_centre {l : Int} : filA (Str.ofString "centre") l = Int.fdiv l 2 := by unfold filA; rw [if_neg (by decide +kernel), if_neg (by decide +kernel)]
noncomputable def filTw (side y : Str) (wd : Int) : Str :=
  if side = Str.ofString "none" then y else if wd - (y.length : Int) ≤ 0 then y
  else Txt.mul (Str.ofString " ") (filA side (wd - (y.length : Int))) ++ y ++ Txt.mul (Str.ofString " ") (wd - (y.length : Int) - filA side (wd - (y.length : Int)))
theorem filA_bd {side : Str} {l : Int} (hs : side = Str.ofString "left" ∨ side = Str.ofString "right" ∨ side = Str.ofString "centre") (h0 : 0 ≤ l) : 0 ≤ filA side l ∧ filA side l ≤ l := by
  rcases hs with q | q | q <;> subst q
  · rw [filA_left]; exact ⟨Int.le_refl 0, h0⟩
  · rw [filA_right]; exact ⟨h0, Int.le_refl l⟩
  · rw [filA_centre, Int.fdiv_eq_ediv_of_nonneg _ (by decide)]
    exact ⟨by lia, by lia⟩
theorem side_none {side : Str} (hs : side = Str.ofString "left" ∨ side = Str.ofString "right" ∨ side = Str.ofString "centre") : ¬ side = Str.ofString "none" := by
  rcases hs with q | q | q <;> subst q <;> decide +kernel
noncomputable def GetMark : Prop := True
theorem get_join {M : Model} {A : Around} {E : Value → Shared → Prop} {h g d tk o} {t : Sem Value} {Q : Value → Shared → Prop} {P : Value → Prop} (a : wpAny M A t (fun v s' => P v ∧ ∃ tk', s' = ⟨h, g, d, tk', o⟩) E ⟨h, g, d, tk, o⟩) (b : ∀ v tk', P v → Q v ⟨h, g, d, tk', o⟩) : wpAny M A t Q E ⟨h, g, d, tk, o⟩ :=
  wpAny_mono a (fun v s' h => by obtain ⟨h1, tk', h2⟩ := h; subst h2; exact b v tk' h1) fun _ _ x => x
section
variable {prog : Program} {w : World} {p : Program} {loose : List Str} {mean : ExcName → Option Value} {mg mb : Str → Option Value} {dp un : Nat} {fs : Option (List Env)} {gd : Option (List Code)} {s : Shared} {Q E : Value → Shared → Prop}
theorem filled_ok {side y : Str} {wd : Int} {t t1 t2 : Tok}
    (C : Site w p loose mean mg mb s.heap) (hdd : dp + 1 < recursionLimit) (hu : un + 100 < cLine) (hy : y.length ≤ 100) (w0 : 0 ≤ wd) (w1 : wd ≤ 100)
    (hs : side = Str.ofString "left" ∨ side = Str.ofString "right" ∨ side = Str.ofString "centre" ∨ side = Str.ofString "none")
    (ret : Ret s Q fun v _ => ∃ tk, v = .str (filTw side y wd) tk) :
    wpAny (model prog w) (At dp un fs gd) (call (.ref 352) [.str y t, .int wd t1, .str side t2]) Q E s := by
  refine quietly ?_ ?_
  focus
    obtain ⟨X, T⟩ := C
    by_cases hn : side = Str.ofString "none"
    · subst hn
      clear hs
      k_extra "tb_start"
      k_steps
      exact ret_str (s := s) ret (Fr.keep (by assumption)) (by unfold filTw; rw [if_pos rfl])
    · replace hs : side = Str.ofString "left" ∨ side = Str.ofString "right" ∨ side = Str.ofString "centre" := by
        rcases hs with q | q | q | q
        · exact .inl q
        · exact .inr (.inl q)
        · exact .inr (.inr q)
        · exact absurd q hn
      have hb : (side == Str.ofString "none") = false := by
        cases q : side == Str.ofString "none" with
        | false => rfl
        | true => exact absurd (beq_iff_eq.mp q) hn
      have hM : GetMark := trivial
      (k_with "getItem ref str" => ((fail_if_success (fail_if_success (have := @on_fl))); (((with_reducible rename GetMark => hM9); refine Held.go ?_))))
      k_extra "tb_start"
      k_steps
      · exact ret_str (s := s) ret (Fr.keep (by assumption)) (by unfold filTw; rw [if_neg hn, if_pos (by assumption)])
      · unfold Held
        clear hM9
        have fb9 := filA_bd hs (l := wd - (y.length : Int)) (by omega)
        obtain ⟨f0, f1⟩ := fb9
        refine get_join (P := fun v => ∃ t', v = Value.int (filA side (wd - (y.length : Int))) t') ?_ ?_
        · clear hb hn
          rcases hs with q | q | q
          · subst q
            k_steps
            all_goals first | exact ⟨_, rfl⟩ | exact ⟨⟨_, congrArg (fun n => Value.int n _) filA_left.symm⟩, ⟨_, rfl⟩⟩ | exact ⟨_, congrArg (fun n => Value.int n _) filA_left.symm⟩
          · subst q
            k_steps
            all_goals first | exact ⟨_, rfl⟩ | exact ⟨⟨_, congrArg (fun n => Value.int n _) filA_right.symm⟩, ⟨_, rfl⟩⟩ | exact ⟨_, congrArg (fun n => Value.int n _) filA_right.symm⟩
          · subst q
            k_steps
            all_goals first | exact ⟨_, rfl⟩ | exact ⟨⟨_, congrArg (fun n => Value.int n _) filA_centre.symm⟩, ⟨_, rfl⟩⟩ | exact ⟨_, congrArg (fun n => Value.int n _) filA_centre.symm⟩
        · rintro v9 tk9 ⟨t9, rfl⟩
          k_steps
          exact ret_str (s := s) ret (Fr.keep (by assumption)) (by unfold filTw; rw [if_neg hn, if_neg (by assumption)])
  intro hf
  simpa only using (ensure_type_of% (quiet_coe hf (0 : Nat) (by exact rfl)) "" hf)
end
end
-- part nu
example : True := by
 w_top off
 exact True.intro
namespace T_nu
theorem on_nu : True := True.intro
end T_nu
section
open T_nw T_ex T_sc T_sg T_wt T_me T_wh T_sp T_fx T_st T_lp T_cf T_fm T_vec T_cx T_ci T_nt T_jf T_nu T_mem
theorem tups_snoc_take {h : Heap} {vs : List Value} {xs : List (Int × Int)} (hi : TupsAt h vs xs) {i : Nat} {v : Value} (hv : vs[i]? = some v) : vs.take (i + 1) = vs.take i ++ [v] := take_snoc hv
section
variable {prog : Program} {w : World} {p : Program} {loose : List Str} {mean : ExcName → Option Value} {mg mb : Str → Option Value} {dp un : Nat} {fs : Option (List Env)} {gd : Option (List Code)} {s : Shared} {Q E : Value → Shared → Prop}
example : True := by
 (k_with "eval ListComp" => ((fail_if_success (fail_if_success (have := @on_nu))); ((k_here; k_dflt (first | ((with_reducible refine (?_ : wpAny _ _ (eval (Expr.ListComp _ [Comprehension.mk _ _ [_] _] _ _) _) _ _ _)); refine LCt.ListComp_T (F₀ := by k_asm) (by with_unfolding_all rfl) (by decide) (by rfl) (by decide) (by rfl) ?_) | ((with_reducible refine (?_ : wpAny _ _ (eval (Expr.ListComp _ [Comprehension.mk _ _ [] _] _ _) _) _ _ _)); refine LCg.ListComp_U (F₀ := by k_asm) (by with_unfolding_all rfl) (by decide) (by rfl) (by decide) (by rfl) ?_))))))
 exact True.intro
noncomputable abbrev fixObj (q : Int) (t1 t2 : Tok) : Obj := { cls := .type "tuple", data := .seq [Value.str (Str.ofString "fixed") t1, .int q t2].toArray }
theorem chosen_fixed_ok {l : Addr} {vs : List Value} {xs : List (Int × Int)} {td : Tok} {p0 : Int}
    (C : Site w p loose mean mg mb s.heap) (hd : dp + 5 < recursionLimit) (hl : s.heap.IsList l vs.toArray) (hx : TupsAt s.heap vs xs) (hz : ∀ x ∈ xs, FracOk x) (hc : cfOf (cf4 xs) = (true, p0))
    (ret : Ret s Q fun v h' => ∃ r t1 t2, v = .ref r ∧ s.heap.get? r = none ∧ h'.get? r = some (fixObj p0 t1 t2)) : wpAny (model prog w) (At dp un fs gd) (call (.ref 130) [.ref l, .int 7 td]) Q E s :=
  chosen_form_ok C hd hl hx hz (by rw [hc]; exact ret)
theorem formed_fixed_ok {v : Value} {n d q : Int} {fa : Addr} {u1 u2 : Tok}
    (C : Site w p loose mean mg mb s.heap) (hd : dp + 5 < recursionLimit) (hx : NumAt s.heap v (some (n, d))) (hf : IsTup s.heap fa [Value.str (Str.ofString "fixed") u1, Value.int q u2].toArray) (ok : FmOk (some (n, d)) (true, q))
    (ret : Ret s Q fun v _ => ∃ tk, v = .str (fmX (some (n, d)) (true, q)) tk) : wpAny (model prog w) (At dp un fs gd) (call (.ref 137) [v, .ref fa]) Q E s :=
  formed_ok (f := (true, q)) C hd hx hf ok ret
example : True := by
 (k_with "call ref" => ((fail_if_success (fail_if_success (have := @on_nu))); ((k_here; (with_reducible refine (?_ : wpAny _ _ (call (Value.ref 130) _) _ _ _)); k_dflt (refine' chosen_fixed_ok ?kC ?kd ?kx ?k0 ?k1 ?k2 ?_; (case kC => k_extra "ktr_rel"); (case kd => k_extra "ktr_unf"); (case kx => k_extra "ktr_units"); (case k0 => k_extra "tb_rel"); (case k1 => assumption); (case k2 => assumption); k_whole; refine Ret.new2 (by k_asm) (by k_asm) ?_; intro r9 u9 u9' h9 tk9 o9 N9 F9; (try simp only [List.nil_append, List.cons_append, List.append_nil, AllNe, and_true] at o9); (try dsimp only); (try k_fold))))))
 exact True.intro
example : True := by
 (k_with "tb_rel" => ((fail_if_success (fail_if_success (have := @on_nu))); (first | exact TupsAt.keeps (Fr.keep (by k_asm)) (by assumption) | assumption)))
 exact True.intro
example : True := by
 (k_with "call ref" => ((fail_if_success (fail_if_success (have := @on_nu))); ((k_here; (with_reducible refine (?_ : wpAny _ _ (call (Value.ref 137) _) _ _ _)); k_dflt (refine' formed_fixed_ok ?kC ?kd ?kx ?kf ?k0 ?_; (case kC => k_extra "ktr_rel"); (case kd => k_extra "ktr_unf"); (case kx => exact NumAt.some (by k_extra "ktr_units")); (case kf => k_extra "ktr_units"); (case k0 => assumption); k_whole; refine Ret.one (by k_asm) (by k_asm) ?_; intro t9 h9 tk9 F9 N9; (try dsimp only); (try k_fold))))))
 exact True.intro
theorem number_texts_ok {a l : Addr} {vs : List Value} {xs : List (Int × Int)} {p0 ns : Int} {t7 tn : Tok}
    (C : Site w p loose mean mg mb s.heap) (hd : dp + 8 < recursionLimit) (hu : un + 40 < cLine) (hv : VecAt w s.heap a (Str.ofString "double") l) (hl : s.heap.IsList l vs.toArray) (hi : TupsAt s.heap vs xs) (hs : vs.length ≤ 1000)
    (hz : ∀ x ∈ xs, FracOk x) (hc : cfOf (cf4 xs) = (true, p0)) (h0 : 0 ≤ p0) (h8 : p0 ≤ 8) (n0 : 0 ≤ ns) (n8 : ns ≤ 8)
    (ret : Ret s Q (TextsPost s (xs.map fun x => fmX (some x) (true, zmax p0 ns)))) : wpAny (model prog w) (At dp un fs gd) (call (.ref 300) [.ref a, .int 7 t7, .int ns tn]) Q E s := by
  refine quietly ?_ ?_
  focus
    obtain ⟨X, T⟩ := C
    have hv0 := hv
    have hi0 := hi
    obtain ⟨dx, kt, t1, t2, t3, t4, t5, e1, e2⟩ := hv
    k_extra "kd_adr"
    k_steps
    k_dflt (refine LCt.CompSrcT.base (by rfl) (by k_asm) (by k_asm) hl (by rw [List.size_toArray]; exact Nat.le_trans hs (by decide)) ?_)
    intro g
    rw [List.size_toArray]
    refine comp_indT vs.length (fun i zs => zs = vs.take i) rfl (Or.inl hl) ?_ ?_
    · intro i zs v I oI C oC D m₂ h tk E' hin hR hv hC hm F' N' off' ne'
      obtain ⟨b, n, d, t, t', hxi, q9, hT⟩ := hi.get (v := v) (by simpa using hv)
      subst q9
      obtain ⟨z1, z2, z3, z4⟩ := hz _ (List.mem_of_getElem? hxi)
      dsimp only at z1 z2 z3 z4
      (try simp only [LCg.Off3, and_true] at off')
      k_steps
      all_goals first
        | assumption
        | (rw [hR, take_snoc (by simpa using hv)])
    · intro zs hR
      rw [List.take_length] at hR
      subst hR
      unfold LCg.FinE
      intro D h tk F9 N9 o9
      (try simp only [LCg.Off1, and_true] at o9)
      k_steps
      k_dflt (refine LCg.CompSrc.base (by rfl) (by k_asm) (by k_asm) hl (by rw [List.size_toArray]; exact Nat.le_trans hs (by decide)) ?_)
      intro g
      rw [List.size_toArray]
      refine comp_ind zs.length (fun i ys => StrsAre ys ((xs.take i).map fun x => fmX (some x) (true, zmax p0 ns))) .nil (Or.inl hl) ?_ ?_
      · intro i ys v I oI C oC D m₂ h tk E' hin hR hv hC hm F' N' off' ne'
        obtain ⟨b, n, d, t, t', hxi, q9, hT⟩ := hi.get (v := v) (by simpa using hv)
        subst q9
        have ok9 : FmOk (some (n, d)) (true, zmax p0 ns) := by
          obtain ⟨z1, z2, z3, z4⟩ := hz _ (List.mem_of_getElem? hxi)
          refine fun _ => ⟨z2, z3, z4, fun _ => ?_, fun h => absurd h (by simp)⟩
          unfold zmax
          split <;> omega
        rw [map_take_snoc _ hxi]
        (try simp only [LCg.Off3, and_true] at off')
        k_steps
        all_goals first | assumption | exact strsAre_snoc hR
      · intro ys hR
        have hlen := hi.length
        rw [hlen, List.take_length] at hR
        unfold LCg.FinE
        intro D h tk F9 N9 o9
        exact ret_new (s := s) ret F9 N9 fun q1 q2 => ⟨_, _, _, rfl, q1, q2, hR⟩
  intro hf
  simpa only using (ensure_type_of% (quiet_coe hf (0 : Nat) (by exact rfl)) "" hf)
end
end
-- part oa
example : True := by
 w_top off
 exact True.intro
namespace T_oa
theorem on_oa : True := True.intro
end T_oa
section
open T_rx T_ry T_rz T_wo T_do T_so T_ca T_la T_vec T_nw T_cn T_oa T_mem
section
variable {w : World} {p : Program} {loose : List Str} {mean : ExcName → Option Value} {mg mb : Str → Option Value} {fs : Option (List Env)} {g h : Heap} {L L0 : Addr} {m : Str → Option Value} {env eL : Env} {news : List (Addr × Obj)} {o0 : Obj} {newsF : Obj → List (Addr × Obj)}
structure Below1 (fs : Option (List Env)) (eL : Env) (L0 : Addr) : Prop where
  stack : fs = some [eL]
  frame : eL.frame = some L0
  kind : eL.scope.kind = .function
noncomputable def NotFields (o : Obj) : Prop := ∀ vs, o.data ≠ .fields vs
theorem thru_two (B : Below1 fs eL L0) (F : Fr g L h m) (N : News g L h news) (h0 : (L0, o0) ∈ news) (hnf : NotFields o0) (hf : env.frame = some L) (hk : env.scope.kind = .function) : Thru (Option.map (fun l => env :: l) fs) g [env, eL] h := by
  have n0 := N _ h0
  exact ⟨by rw [B.stack]; rfl, F.keep, .cons (by rw [hk]; decide) hf F.ns (kts_self F) ⟨by rw [B.kind]; decide, ⟨L0, o0, B.frame, n0.2.2, n0.1, hnf⟩, trivial⟩⟩
theorem turn_back {g₁ h' : Heap} (B : Below1 fs eL L0) (F : Fr g L h m) (N : News g L h news) (U : UpdF L0 o0 news newsF) (hf : env.frame = some L) (T : KtsTurn ([env, eL].filterMap (·.frame)) h g₁) (k : Keeps g₁ h') :
    ∃ sl, Fr g L h' m ∧ News g L h' (newsF { o0 with slots := sl }) := by
  obtain ⟨pre, post, hl, hg, a, b⟩ := U.split
  have h0 := N (L0, o0) (by rw [hl]; exact List.mem_append_right _ (.head _))
  have fr : ∀ b, b ∈ [env, eL].filterMap (·.frame) → b = L ∨ b = L0 := fun b hb => by
    rcases kts_mem' hf hb with z | z
    · exact .inl z
    · rcases kts_mem' B.frame z with z | z
      · exact .inr z
      · cases z
  have same : ∀ b o, h.get? b = some o → b ≠ L → b ≠ L0 → h'.get? b = some o := fun b o e n1 n2 => k _ _ (T.other b o e fun q => by
    rcases fr b q with z | z
    · exact n1 z
    · exact n2 z)
  have up : ∀ b o, h.get? b = some o → ∃ sl, h'.get? b = some { o with slots := sl } := fun b o e => by
    obtain ⟨sl, hs⟩ := T.up e
    exact ⟨sl, k _ _ hs⟩
  obtain ⟨oL, es, ep, hL, hLd, hLk⟩ := F.ns
  obtain ⟨sl, hsl⟩ := up L oL hL
  obtain ⟨sl0, hsl0⟩ := up L0 o0 h0.1
  refine ⟨sl0, ⟨⟨_, es, ep, hsl, hLd, hLk⟩, fun b o e => same b o (F.keep b o e) (fun q => by rw [q, kts_self F] at e; cases e) (fun q => by rw [q, h0.2.2] at e; cases e), F.above⟩, ?_⟩
  rw [hg]
  intro q hq
  rcases List.mem_append.mp hq with z | z
  · have n := N q (by rw [hl]; exact List.mem_append_left _ z)
    exact ⟨same _ _ n.1 n.2.1 (a q z), n.2⟩
  · rcases List.mem_cons.mp z with z | z
    · rw [z]; exact ⟨hsl0, h0.2⟩
    · have n := N q (by rw [hl]; exact List.mem_append_right _ (.tail _ z))
      exact ⟨same _ _ n.1 n.2.1 (b q z), n.2⟩
end
section
variable {prog : Program} {w : World} {p : Program} {loose : List Str} {mean : ExcName → Option Value} {mg mb : Str → Option Value} {dp un : Nat} {fs : Option (List Env)} {gd : Option (List Code)} {s : Shared} {Q E : Value → Shared → Prop} {g : Heap} {L L0 : Addr} {m : Str → Option Value} {env eL : Env} {news : List (Addr × Obj)} {o0 oB : Obj} {newsF : Obj → List (Addr × Obj)}
noncomputable def SlotOf (oB o : Obj) : Prop := ∃ sl, o = { oB with slots := sl }
theorem SlotOf.refl (o : Obj) : SlotOf o o := ⟨o.slots, rfl⟩
theorem backQ {P : Value → Heap → Prop} (B : Below1 fs eL L0) (F : Fr g L s.heap m) (N : News g L s.heap news) (U : UpdF L0 o0 news newsF) (hnf : NotFields o0) (hso : SlotOf oB o0) (hf : env.frame = some L)
    (h : ∀ v' h' o' tk', Fr g L h' m → News g L h' (newsF o') → NotFields o' → SlotOf oB o' → P v' h' → Q v' { s with heap := h', toks := tk' }) : RetU s [env, eL] Q P :=
  fun v h' g₁ tk' T k hp => by
    obtain ⟨sl, F', N'⟩ := turn_back B F N U hf T k
    refine h v h' _ tk' F' N' hnf ?_ hp
    obtain ⟨sl0, rfl⟩ := hso
    exact ⟨sl, rfl⟩
theorem updF_mem (U : UpdF L0 o0 news newsF) : (L0, o0) ∈ news := by
  obtain ⟨pre, post, hl, _⟩ := U.split
  rw [hl]; exact List.mem_append_right _ (.head _)
theorem asked_whole_b {v : Value} {t t' : Tok} {u : Int} {out : Option Int}
    (C : Site w p loose mean mg mb g) (B : Below1 fs eL L0) (F : Fr g L s.heap m) (N : News g L s.heap news) (U : UpdF L0 o0 news newsF) (hnf : NotFields o0) (hso : SlotOf oB o0) (hf : env.frame = some L) (hk : env.scope.kind = .function) (hdd : dp + 9 < recursionLimit) (hu : un + 100 < cLine) (hv : WholeIs w s.heap u v out)
    (ret : ∀ v' h' o' tk', Fr g L h' m → News g L h' (newsF o') → NotFields o' → SlotOf oB o' → (fun v (_ : Heap) => IntAns out (Str.ofString "invalid 'width' argument") v) v' h' → Q v' { s with heap := h', toks := tk' }) :
    wpAny (model prog w) (At dp un (Option.map (fun l => env :: l) fs) gd) (call (.ref 338) [.str (Str.ofString "whole") t, v, .int u t']) Q E s :=
  asked_whole_ok (base := g) ⟨C.X.keeps F.keep, C.T.keeps F.keep⟩ C (thru_two B F N (updF_mem U) hnf hf hk) hdd hu hv (backQ B F N U hnf hso hf ret)
theorem asked_digits_b {v more : Value} {t : Tok} {out : Option Int}
    (C : Site w p loose mean mg mb g) (B : Below1 fs eL L0) (F : Fr g L s.heap m) (N : News g L s.heap news) (U : UpdF L0 o0 news newsF) (hnf : NotFields o0) (hso : SlotOf oB o0) (hf : env.frame = some L) (hk : env.scope.kind = .function) (hdd : dp + 9 < recursionLimit) (hu : un + 100 < cLine) (hv : WholeIs w s.heap 7 v out)
    (ret : ∀ v' h' o' tk', Fr g L h' m → News g L h' (newsF o') → NotFields o' → SlotOf oB o' → (fun v (_ : Heap) => IntAns (digAns out) (Str.ofString "invalid 'digits' argument") v) v' h' → Q v' { s with heap := h', toks := tk' }) :
    wpAny (model prog w) (At dp un (Option.map (fun l => env :: l) fs) gd) (call (.ref 338) [.str (Str.ofString "digits") t, v, more]) Q E s :=
  asked_digits_ok (base := g) ⟨C.X.keeps F.keep, C.T.keeps F.keep⟩ C (thru_two B F N (updF_mem U) hnf hf hk) hdd hu hv (backQ B F N U hnf hso hf ret)
theorem asked_side_b {v more : Value} {t : Tok} {out : Option Str}
    (C : Site w p loose mean mg mb g) (B : Below1 fs eL L0) (F : Fr g L s.heap m) (N : News g L s.heap news) (U : UpdF L0 o0 news newsF) (hnf : NotFields o0) (hso : SlotOf oB o0) (hf : env.frame = some L) (hk : env.scope.kind = .function) (hdd : dp + 9 < recursionLimit) (hu : un + 100 < cLine) (hv : SideIs w s.heap v out)
    (ret : ∀ v' h' o' tk', Fr g L h' m → News g L h' (newsF o') → NotFields o' → SlotOf oB o' → (fun v (_ : Heap) => ∃ tk, v = .str (sideAns out) tk) v' h' → Q v' { s with heap := h', toks := tk' }) :
    wpAny (model prog w) (At dp un (Option.map (fun l => env :: l) fs) gd) (call (.ref 338) [.str (Str.ofString "side") t, v, more]) Q E s :=
  asked_side_ok (base := g) ⟨C.X.keeps F.keep, C.T.keeps F.keep⟩ C (thru_two B F N (updF_mem U) hnf hf hk) hdd hu hv (backQ B F N U hnf hso hf ret)
theorem thread_b {sp : Addr} {vs : List Value} {ns : List Int} {n : Nat} {most : Int} {t : Tok} {newsF : Obj → List (Addr × Obj)}
    (C : Site w p loose mean mg mb g) (F : Fr g L s.heap m) (N : News g L s.heap news) (U : UpdF sp (listOf vs.toArray n) news newsF) (hdd : dp + 1 < recursionLimit) (hu : un + 100 < cLine)
    (hv : IntsAre vs ns) (hb : ∀ i ∈ ns, 0 ≤ i ∧ i < 163) (hs : vs.length ≤ 1000) (h0 : 0 < most) (h1 : most < 2 ^ 32)
    (h : ∀ r t' vs' ns' n' h' tk', Fr g L h' m → News g L h' (newsF (listOf vs'.toArray n')) → IntsAre vs' ns' → (∀ i ∈ ns', 0 ≤ i ∧ i < 163) → vs'.length ≤ 1000 → 0 ≤ r → r < most → Q (.int r t') { s with heap := h', toks := tk' }) :
    wpAny (model prog w) (At dp un fs gd) (call (.ref 326) [.ref sp, .int most t]) Q E s := by
  obtain ⟨pre, post, hl, hg, a, b⟩ := U.split
  have hm : (sp, listOf vs.toArray n) ∈ news := by rw [hl]; exact List.mem_append_right _ (.head _)
  obtain ⟨e1, e2, e3⟩ := N _ hm
  refine law_thread_ok (ns := ns) ⟨g, C, F.keep, fun a ha => by rw [List.mem_singleton.mp ha]; exact e3⟩ hdd hu e1 hv hb hs h0 h1 fun r t' vs' ns' n' h' tk' k q hv' hb' hl' r0 r1 =>
    h r t' vs' ns' n' h' tk' ⟨?_, fun b o e => k b o (fun z => by rw [z, e3] at e; cases e) (F.keep b o e), F.above⟩ ?_ hv' hb' (Nat.le_trans hl' hs) r0 r1
  · obtain ⟨oL, es, ep, hL, hr⟩ := F.ns
    exact ⟨oL, es, ep, k L oL (fun z => e2 z.symm) hL, hr⟩
  · rw [hg]
    intro q hq
    rcases List.mem_append.mp hq with z | z
    · have := N q (by rw [hl]; exact List.mem_append_left _ z)
      exact ⟨k _ _ (a q z) this.1, this.2⟩
    · rcases List.mem_cons.mp z with z | z
      · rw [z]; exact ⟨‹h'.get? sp = _›, e2, e3⟩
      · have := N q (by rw [hl]; exact List.mem_append_right _ (.tail _ z))
        exact ⟨k _ _ (b q z) this.1, this.2⟩
end
end
-- part mv
example : True := by
 w_top off
 exact True.intro
namespace T_mv
theorem on_mv : True := True.intro
end T_mv
section
open T_vec T_nw T_mv T_mem
section
variable {w : World}
theorem init_230 : findIn (hd.heap_1_1 w.params) (.ref 230) "__init__" = some (some (.ref 220)) := by kernel_rfl
theorem init_201 : findIn (hd.heap_1_1 w.params) (.ref 201) "__init__" = some (some (.ref 198)) := by kernel_rfl
theorem init_251 : findIn (hd.heap_1_1 w.params) (.ref 251) "__init__" = some (some (.ref 248)) := by kernel_rfl
theorem makes_230 : makesIn (hd.heap_1_1 w.params) 230 = true := by kernel_rfl
theorem makes_201 : makesIn (hd.heap_1_1 w.params) 201 = true := by kernel_rfl
theorem makes_251 : makesIn (hd.heap_1_1 w.params) 251 = true := by kernel_rfl
theorem fn_220 : typeIn (hd.heap_1_1 w.params) (.ref 220) = some (.type "function") := by kernel_rfl
theorem fn_198 : typeIn (hd.heap_1_1 w.params) (.ref 198) = some (.type "function") := by kernel_rfl
theorem fn_248 : typeIn (hd.heap_1_1 w.params) (.ref 248) = some (.type "function") := by kernel_rfl
end
section
variable {prog : Program} {w : World} {p : Program} {loose : List Str} {mean : ExcName → Option Value} {mg mb : Str → Option Value} {dp un : Nat} {fs : Option (List Env)} {gd : Option (List Code)} {s : Shared} {Q E : Value → Shared → Prop} {g : Heap} {L : Addr} {m : Str → Option Value} {news : List (Addr × Obj)}
theorem made_two {x dx : Addr} {ox odx : Obj} {h₁ h' g₂ : Heap} {o1 o2 : Obj} (hg : hideAll h₁ (([(x, o1), (dx, o2)] : List (Addr × Obj)).map (·.1)) = g₂) (k : Keeps g₂ h') (F : Fr g L h₁ m) (N : News g L h₁ ((x, o1) :: (dx, o2) :: news)) (lt : ∀ p ∈ news, p.1 < dx) (l2 : dx < x)
    (ex : h'.get? x = some ox) (ed : h'.get? dx = some odx) : Fr g L h' m ∧ News g L h' ((x, ox) :: (dx, odx) :: news) := by
  have kp : ∀ b o, b ≠ x → b ≠ dx → h₁.get? b = some o → h'.get? b = some o := fun b o n1 n2 e => k b o (by
    subst hg
    refine hideAll_get _ e fun q => ?_
    simp only [List.map_cons, List.map_nil, List.mem_cons, List.not_mem_nil, or_false] at q
    rcases q with q | q
    · exact n1 q
    · exact n2 q)
  have nx := N _ (.head _)
  have nd := N _ (.tail _ (.head _))
  obtain ⟨oL, es, ep, hL, hr⟩ := F.ns
  refine ⟨⟨⟨oL, es, ep, kp L oL (fun q => nx.2.1 q.symm) (fun q => nd.2.1 q.symm) hL, hr⟩, fun b o e => kp b o (fun q => ?_) (fun q => ?_) (F.keep b o e), F.above⟩, fun q hq => ?_⟩
  · rw [q, nx.2.2] at e; cases e
  · rw [q, nd.2.2] at e; cases e
  · rcases List.mem_cons.mp hq with q' | hq
    · rw [q']; exact ⟨ex, nx.2⟩
    · rcases List.mem_cons.mp hq with q' | hq
      · rw [q']; exact ⟨ed, nd.2⟩
      · have z := N q (.tail _ (.tail _ hq))
        have := lt q hq
        refine ⟨kp _ _ (fun e => ?_) (fun e => ?_) z.1, z.2⟩
        · rw [e] at this; exact Nat.lt_irrefl _ (Nat.lt_trans this l2)
        · rw [e] at this; exact Nat.lt_irrefl _ this
noncomputable abbrev nullDict (w : World) (kt t1 t2 : Tok) : Obj := dictOf [⟨PyData.keyHash w.params (Str.ofString "kind"), .str (Str.ofString "kind") t1, .str (Str.ofString "NULL") kt⟩, ⟨PyData.keyHash w.params (Str.ofString "attrs"), .str (Str.ofString "attrs") t2, .none⟩] 2
noncomputable abbrev symDict (w : World) (x : Str) (xt kt t1 t2 t3 : Tok) : Obj := dictOf [⟨PyData.keyHash w.params (Str.ofString "kind"), .str (Str.ofString "kind") t1, .str (Str.ofString "symbol") kt⟩, ⟨PyData.keyHash w.params (Str.ofString "name"), .str (Str.ofString "name") t2, .str x xt⟩, ⟨PyData.keyHash w.params (Str.ofString "attrs"), .str (Str.ofString "attrs") t3, .none⟩] 3
theorem vector_ok {k : Str} {kt : Tok} {l : Addr}
    (C : Site w p loose mean mg mb g) (F : Fr g L s.heap m) (N : News g L s.heap news) (hdd : dp + 3 < recursionLimit) (hu : un + 60 < cLine)
    (h : ∀ x dx h' tk' t1 t2 t3 t4 t5, Fr g L h' m → News g L h' ((x, instObj 230 dx) :: (dx, vecDict w k kt l t1 t2 t3 t4 t5) :: news) → (∀ p ∈ news, p.1 < dx) → dx < x → Q (.ref x) { s with heap := h', toks := tk' }) :
    wpAny (model prog w) (At dp un fs gd) (call (.ref 230) [.str k kt, .ref l]) Q E s := by
  refine quietly ?_ ?_
  focus
    refine wpAny_call ?_
    refine make_K F N (C.X.keeps F.keep) makes_230 init_230 fn_220 fun x dx h₁ F₁ N₁ lt1 lt2 => ?_
    have Cn : SiteN w p loose mean mg mb h₁ (([(x, instObj 230 dx), (dx, emptyDict)] : List (Addr × Obj)).map (·.1)) := ⟨g, C, F₁.keep, fun a ha => by
      simp only [List.map_cons, List.map_nil, List.mem_cons, List.not_mem_nil, or_false] at ha
      rcases ha with q | q
      · rw [q]; exact (N₁ _ (.head _)).2.2
      · rw [q]; exact (N₁ _ (.tail _ (.head _))).2.2⟩
    have hn : ∀ q ∈ [(x, instObj 230 dx), (dx, emptyDict)], h₁.get? q.1 = some q.2 := fun q hq => by
      rcases List.mem_cons.mp hq with z | hq
      · rw [z]; exact (N₁ _ (.head _)).1
      · rw [List.mem_singleton.mp hq]; exact (N₁ _ (.tail _ (.head _))).1
    have X1 : (hd.heap_1_1 w.params).In ({ s with heap := h₁ } : Shared).heap := C.X.keeps F₁.keep
    (k_dflt (refine' code_defN (s := { s with heap := h₁ }) [(x, instObj 230 dx), (dx, emptyDict)] Cn hn ?k6 ?k7 ?k8 ?k9 ?kB ?_ ?c2 ?c3 ?c4 ?c5; (case k6 => k_is); (case k7 => k_is); (case k8 => (simp only [depth_under_make]; show dp + 1 < _; omega)); (case k9 => first | exact binds_of rfl | exact BindsTo.of_eq rfl | exact binds_K X1 rfl (by k_is) rfl rfl rfl | fail "the arguments"); (case c5 => decide); (case kB => exact locs rfl); (case c2 => exact rfl); (case c3 => exact rfl); (case c4 => exact rfl)))
    intro g' L' h' tk' hg' F' N' X' T'
    have lt3 : @LT.lt Nat _ dx x := lt2
    k_steps
    rename_i h5 h4 h3 h2 h6 F9 N9
    obtain ⟨F8, N8⟩ := made_two hg' F9.keep F₁ N₁ lt1 lt2 (N9 _ (.head _)).1 (N9 _ (.tail _ (.head _))).1
    exact ⟨rfl, h _ _ _ _ _ _ _ _ _ F8 N8 lt1 lt2⟩
  intro hf
  simpa only using (ensure_type_of% (quiet_coe hf (0 : Nat) (by exact rfl)) "" hf)
theorem null_ok
    (C : Site w p loose mean mg mb g) (F : Fr g L s.heap m) (N : News g L s.heap news) (hdd : dp + 3 < recursionLimit) (hu : un + 60 < cLine)
    (h : ∀ x dx h' tk' kt t1 t2, Fr g L h' m → News g L h' ((x, instObj 201 dx) :: (dx, nullDict w kt t1 t2) :: news) → (∀ p ∈ news, p.1 < dx) → dx < x → Q (.ref x) { s with heap := h', toks := tk' }) :
    wpAny (model prog w) (At dp un fs gd) (call (.ref 201) []) Q E s := by
  refine quietly ?_ ?_
  focus
    refine wpAny_call ?_
    refine make_K F N (C.X.keeps F.keep) makes_201 init_201 fn_198 fun x dx h₁ F₁ N₁ lt1 lt2 => ?_
    have Cn : SiteN w p loose mean mg mb h₁ (([(x, instObj 201 dx), (dx, emptyDict)] : List (Addr × Obj)).map (·.1)) := ⟨g, C, F₁.keep, fun a ha => by
      simp only [List.map_cons, List.map_nil, List.mem_cons, List.not_mem_nil, or_false] at ha
      rcases ha with q | q
      · rw [q]; exact (N₁ _ (.head _)).2.2
      · rw [q]; exact (N₁ _ (.tail _ (.head _))).2.2⟩
    have hn : ∀ q ∈ [(x, instObj 201 dx), (dx, emptyDict)], h₁.get? q.1 = some q.2 := fun q hq => by
      rcases List.mem_cons.mp hq with z | hq
      · rw [z]; exact (N₁ _ (.head _)).1
      · rw [List.mem_singleton.mp hq]; exact (N₁ _ (.tail _ (.head _))).1
    have X1 : (hd.heap_1_1 w.params).In ({ s with heap := h₁ } : Shared).heap := C.X.keeps F₁.keep
    (k_dflt (refine' code_defN (s := { s with heap := h₁ }) [(x, instObj 201 dx), (dx, emptyDict)] Cn hn ?k6 ?k7 ?k8 ?k9 ?kB ?_ ?c2 ?c3 ?c4 ?c5; (case k6 => k_is); (case k7 => k_is); (case k8 => (simp only [depth_under_make]; show dp + 1 < _; omega)); (case k9 => first | exact binds_of rfl | exact BindsTo.of_eq rfl | exact binds_K X1 rfl (by k_is) rfl rfl rfl | fail "the arguments"); (case c5 => decide); (case kB => exact locs rfl); (case c2 => exact rfl); (case c3 => exact rfl); (case c4 => exact rfl)))
    intro g' L' h' tk' hg' F' N' X' T'
    have lt3 : @LT.lt Nat _ dx x := lt2
    k_steps
    rename_i h5 h6 F9 N9
    obtain ⟨F8, N8⟩ := made_two hg' F9.keep F₁ N₁ lt1 lt2 (N9 _ (.head _)).1 (N9 _ (.tail _ (.head _))).1
    exact ⟨rfl, h _ _ _ _ _ _ _ F8 N8 lt1 lt2⟩
  intro hf
  simpa only using (ensure_type_of% (quiet_coe hf (0 : Nat) (by exact rfl)) "" hf)
theorem symbol_ok {y : Str} {yt : Tok}
    (C : Site w p loose mean mg mb g) (F : Fr g L s.heap m) (N : News g L s.heap news) (hdd : dp + 3 < recursionLimit) (hu : un + 60 < cLine)
    (h : ∀ x dx h' tk' kt t1 t2 t3, Fr g L h' m → News g L h' ((x, instObj 251 dx) :: (dx, symDict w y yt kt t1 t2 t3) :: news) → (∀ p ∈ news, p.1 < dx) → dx < x → Q (.ref x) { s with heap := h', toks := tk' }) :
    wpAny (model prog w) (At dp un fs gd) (call (.ref 251) [.str y yt]) Q E s := by
  refine quietly ?_ ?_
  focus
    refine wpAny_call ?_
    refine make_K F N (C.X.keeps F.keep) makes_251 init_251 fn_248 fun x dx h₁ F₁ N₁ lt1 lt2 => ?_
    have Cn : SiteN w p loose mean mg mb h₁ (([(x, instObj 251 dx), (dx, emptyDict)] : List (Addr × Obj)).map (·.1)) := ⟨g, C, F₁.keep, fun a ha => by
      simp only [List.map_cons, List.map_nil, List.mem_cons, List.not_mem_nil, or_false] at ha
      rcases ha with q | q
      · rw [q]; exact (N₁ _ (.head _)).2.2
      · rw [q]; exact (N₁ _ (.tail _ (.head _))).2.2⟩
    have hn : ∀ q ∈ [(x, instObj 251 dx), (dx, emptyDict)], h₁.get? q.1 = some q.2 := fun q hq => by
      rcases List.mem_cons.mp hq with z | hq
      · rw [z]; exact (N₁ _ (.head _)).1
      · rw [List.mem_singleton.mp hq]; exact (N₁ _ (.tail _ (.head _))).1
    have X1 : (hd.heap_1_1 w.params).In ({ s with heap := h₁ } : Shared).heap := C.X.keeps F₁.keep
    (k_dflt (refine' code_defN (s := { s with heap := h₁ }) [(x, instObj 251 dx), (dx, emptyDict)] Cn hn ?k6 ?k7 ?k8 ?k9 ?kB ?_ ?c2 ?c3 ?c4 ?c5; (case k6 => k_is); (case k7 => k_is); (case k8 => (simp only [depth_under_make]; show dp + 1 < _; omega)); (case k9 => first | exact binds_of rfl | exact BindsTo.of_eq rfl | exact binds_K X1 rfl (by k_is) rfl rfl rfl | fail "the arguments"); (case c5 => decide); (case kB => exact locs rfl); (case c2 => exact rfl); (case c3 => exact rfl); (case c4 => exact rfl)))
    intro g' L' h' tk' hg' F' N' X' T'
    have lt3 : @LT.lt Nat _ dx x := lt2
    k_steps
    rename_i h5 h4 h6 F9 N9
    obtain ⟨F8, N8⟩ := made_two hg' F9.keep F₁ N₁ lt1 lt2 (N9 _ (.head _)).1 (N9 _ (.tail _ (.head _))).1
    exact ⟨rfl, h _ _ _ _ _ _ _ _ F8 N8 lt1 lt2⟩
  intro hf
  simpa only using (ensure_type_of% (quiet_coe hf (0 : Nat) (by exact rfl)) "" hf)
end
example : True := by
 (k_with "call ref" => ((fail_if_success (fail_if_success (have := @on_mv))); ((k_here; (with_reducible refine (?_ : wpAny _ _ (call (Value.ref 230) _) _ _ _)); k_dflt (refine' vector_ok ?kC ?kF ?kN ?kd ?ku ?_; (case kC => exact ⟨by k_asm, by k_asm⟩); (case kF => k_asm); (case kN => k_asm); (case kd => k_extra "ktr_unf"); (case ku => k_extra "kwd_rel"); k_whole; intro x' dx' h' tk' t1 t2 t3 t4 t5 F' N' l1 l2; (try k_lt l1); (try k_lt2 l2); (try k_sweep))))))
 exact True.intro
example : True := by
 (k_with "call ref" => ((fail_if_success (fail_if_success (have := @on_mv))); ((k_here; (with_reducible refine (?_ : wpAny _ _ (call (Value.ref 201) _) _ _ _)); k_dflt (refine' null_ok ?kC ?kF ?kN ?kd ?ku ?_; (case kC => exact ⟨by k_asm, by k_asm⟩); (case kF => k_asm); (case kN => k_asm); (case kd => k_extra "ktr_unf"); (case ku => k_extra "kwd_rel"); k_whole; intro x' dx' h' tk' kt t1 t2 F' N' l1 l2; (try k_lt l1); (try k_lt2 l2); (try k_sweep))))))
 exact True.intro
example : True := by
 (k_with "call ref" => ((fail_if_success (fail_if_success (have := @on_mv))); ((k_here; (with_reducible refine (?_ : wpAny _ _ (call (Value.ref 251) _) _ _ _)); k_dflt (refine' symbol_ok ?kC ?kF ?kN ?kd ?ku ?_; (case kC => exact ⟨by k_asm, by k_asm⟩); (case kF => k_asm); (case kN => k_asm); (case kd => k_extra "ktr_unf"); (case ku => k_extra "kwd_rel"); k_whole; intro x' dx' h' tk' kt t1 t2 t3 F' N' l1 l2; (try k_lt l1); (try k_lt2 l2); (try k_sweep))))))
 exact True.intro
end
-- part ot
example : True := by
 w_top off
 exact True.intro
namespace T_ot
theorem on_ot : True := True.intro
end T_ot
section
open T_oa T_vec T_nw T_cn T_mv T_cx T_rx T_ry T_rz T_wo T_do T_so T_ca T_la T_ot T_mem
example : True := by
 (k_with "call ref" => ((fail_if_success (fail_if_success (have := @on_ot))); ((k_here; (with_reducible refine (?_ : wpAny _ _ (call (Value.ref 326) _) _ _ _)); k_dflt (refine' thread_b ?kC ?kF ?kN ?kU ?kd ?ku ?kv ?kb ?ks ?k0 ?k1 ?_; (case kC => exact ⟨by k_asm, by k_asm⟩); (case kF => k_asm); (case kN => k_asm); (case kU => k_updF); (case kd => k_extra "ktr_unf"); (case ku => k_extra "kwd_rel"); (case kv => assumption); (case kb => assumption); (case ks => assumption); (case k0 => decide); (case k1 => decide); k_whole; intro r9 t9 vs9 ns9 n9 h9 tk9 F9 N9 hv9 hb9 hs9 r90 r91; (try k_sweep); (try dsimp only); (try k_fold))))))
 exact True.intro
noncomputable def CutAt (prog : Program) (w : World) (A : Around) (env : Env) (tail : List Stmt) (Q : Flow → Shared → Prop) (E : Value → Shared → Prop) (P : Shared → Prop) : Prop := ∀ s', P s' → wpAny (model prog w) A (execs tail env) Q E s'
theorem CutAt.use {prog : Program} {w : World} {A : Around} {env : Env} {tail : List Stmt} {Q : Flow → Shared → Prop} {E : Value → Shared → Prop} {P : Shared → Prop} {s : Shared} (h : CutAt prog w A env tail Q E P) (hp : P s) : wpAny (model prog w) A (execs tail env) Q E s := h s hp
theorem cut5 {prog : Program} {w : World} {A : Around} {env : Env} {a b c d e : Stmt} {tail : List Stmt} {Q : Flow → Shared → Prop} {E : Value → Shared → Prop} {s : Shared} (P : Shared → Prop) (hT : CutAt prog w A env tail Q E P) (h : CutAt prog w A env tail Q E P → wpAny (model prog w) A (execs (a :: b :: c :: d :: e :: tail) env) Q E s) : wpAny (model prog w) A (execs (a :: b :: c :: d :: e :: tail) env) Q E s := h hT
theorem cut3 {prog : Program} {w : World} {A : Around} {env : Env} {a b c : Stmt} {tail : List Stmt} {Q : Flow → Shared → Prop} {E : Value → Shared → Prop} {s : Shared} (P : Shared → Prop) (hT : CutAt prog w A env tail Q E P) (h : CutAt prog w A env tail Q E P → wpAny (model prog w) A (execs (a :: b :: c :: tail) env) Q E s) : wpAny (model prog w) A (execs (a :: b :: c :: tail) env) Q E s := h hT
theorem cut1 {prog : Program} {w : World} {A : Around} {env : Env} {a : Stmt} {tail : List Stmt} {Q : Flow → Shared → Prop} {E : Value → Shared → Prop} {s : Shared} (P : Shared → Prop) (hT : CutAt prog w A env tail Q E P) (h : CutAt prog w A env tail Q E P → wpAny (model prog w) A (execs (a :: tail) env) Q E s) : wpAny (model prog w) A (execs (a :: tail) env) Q E s := h hT
section
variable {prog : Program} {w : World} {p : Program} {loose : List Str} {mean : ExcName → Option Value} {mg mb : Str → Option Value} {dp un : Nat} {fs : Option (List Env)} {gd : Option (List Code)} {s : Shared} {Q E : Value → Shared → Prop} {eL : Env} {L0 : Addr} {o0 : Obj}
noncomputable abbrev RetP (s : Shared) (sp L0 : Addr) (o0 : Obj) (Q : Value → Shared → Prop) : Prop :=
  ∀ h' tk' vs' ns' n' sl, (∀ b o, b ≠ sp → b ≠ L0 → s.heap.get? b = some o → h'.get? b = some o) → h'.get? sp = some (listOf vs'.toArray n') → h'.get? L0 = some { o0 with slots := sl } → IntsAre vs' ns' → (∀ i ∈ ns', (0 : Int) ≤ i ∧ i < 163) → vs'.length ≤ 1000 → Q (.bool true) { s with heap := h', toks := tk' }
theorem keep_but2 {h h' g : Heap} {a b : Addr} {x y : Obj} (hg : hideAll h (([(a, x), (b, y)] : List (Addr × Obj)).map (·.1)) = g) (k : Keeps g h') : ∀ c o, c ≠ a → c ≠ b → h.get? c = some o → h'.get? c = some o := fun c o n1 n2 ho =>
  k c o (by
    subst hg
    refine hideAll_get _ ho fun q => ?_
    simp only [List.map_cons, List.map_nil, List.mem_cons, List.not_mem_nil, or_false] at q
    rcases q with q | q
    · exact n1 q
    · exact n2 q)
theorem opt_end {g h : Heap} {L sp : Addr} {m : Str → Option Value} {x : Obj} {o1 : Obj} {news : List (Addr × Obj)} {vs : List Value} {ns : List Int} {n tk : Nat} {b : Bool} (ret : RetP s sp L0 o0 Q) (hg : hideAll s.heap (([(sp, x), (L0, o0)] : List (Addr × Obj)).map (·.1)) = g) (F : Fr g L h m) (N : News g L h news)
    (hm : (sp, listOf vs.toArray n) ∈ news) (h0 : (L0, o1) ∈ news) (hso : SlotOf o0 o1) (hv : IntsAre vs ns) (hb : ∀ i ∈ ns, (0 : Int) ≤ i ∧ i < 163) (hs : vs.length ≤ 1000) (e : b = true) : Q (.bool b) { s with heap := h, toks := tk } := by
  subst e
  obtain ⟨sl, rfl⟩ := hso
  exact ret _ _ _ _ _ sl (keep_but2 hg F.keep) (N _ hm).1 (N _ h0).1 hv hb hs
end
theorem pick_any {prog : Program} {w : World} {A : Around} {E : Value → Shared → Prop} {s : Shared} {value slice : Expr} {l : Addr} {items : List Value} {k : Int} {u : Tok} {Q : Value → Shared → Prop} (hl : s.heap.IsList l items.toArray) (h0 : 0 ≤ k) (hk : k < (items.length : Int)) (hfit : k < 2 ^ 63)
    (h : ∀ x, x ∈ items → Q x s)
    (hs : subscripted slice false (.ref l) (.int k u) = operate [.ref l, .int k u] (getItem (.ref l) (.int k u)) := by with_unfolding_all rfl) (hg : ∀ r, letTemporaryGo value (.ref l) r = pure () := by intro _; with_unfolding_all rfl) :
    wpAny (model prog w) A (subscriptTail value slice (.ref l) (.int k u)) Q E s := by
  have hlt : k.toNat < items.length := by omega
  exact PyProof.Rows.item_list hl h0 hfit (x := items[k.toNat]) (by simp [hlt]) (h _ (List.getElem_mem hlt)) hs hg
theorem vec_in {w : World} {g h : Heap} {L a dx l : Addr} {k : Str} {kt t1 t2 t3 t4 t5 : Tok} {R : List (Addr × Obj)} (N : News g L h R) (h1 : (a, instObj 230 dx) ∈ R) (h2 : (dx, vecDict w k kt l t1 t2 t3 t4 t5) ∈ R) : VecAt w h a k l := ⟨dx, kt, t1, t2, t3, t4, t5, (N _ h1).1, (N _ h2).1⟩
theorem null_in {w : World} {g h : Heap} {L a dx : Addr} {kt t1 t2 : Tok} {R : List (Addr × Obj)} (N : News g L h R) (h1 : (a, instObj 201 dx) ∈ R) (h2 : (dx, nullDict w kt t1 t2) ∈ R) : NullAt w h a := ⟨_, _, _, _, (N _ h1).1, (N _ h2).1⟩
theorem sym_in {w : World} {g h : Heap} {L a dx : Addr} {y : Str} {yt kt t1 t2 t3 : Tok} {R : List (Addr × Obj)} (N : News g L h R) (h1 : (a, instObj 251 dx) ∈ R) (h2 : (dx, symDict w y yt kt t1 t2 t3) ∈ R) : SymAt w h a y := ⟨_, _, _, _, _, _, (N _ h1).1, (N _ h2).1⟩
end
-- part pr
example : True := by
 w_top off
 exact True.intro
namespace T_pr
theorem on_pr : True := True.intro
end T_pr
section
open T_oa T_rx T_ry T_rz T_wo T_do T_so T_ca T_la T_pr T_mem
noncomputable def PairPost (h₀ : Heap) (L L0 I : Addr) (oI oB : Obj) (R : List (Addr × Obj)) (J : (Str → Option Value) → Prop) (s₁ : Shared) (Q : Flow → Shared → Prop) (f : Flow) (s₂ : Shared) : Prop :=
  match f with
  | .ret v => Q (.ret v) s₂
  | .brk => Q .next s₂
  | _ => ∃ h' tk m' o1, s₂ = { s₁ with heap := h', toks := tk } ∧ Fr h₀ L h' m' ∧ News h₀ L h' ((I, oI) :: (L0, o1) :: R) ∧ NotFields o1 ∧ SlotOf oB o1 ∧ J m'
theorem pair_next {h₀ h' : Heap} {L L0 I : Addr} {oI oB o1 : Obj} {R : List (Addr × Obj)} {J : (Str → Option Value) → Prop} {s₁ : Shared} {Q : Flow → Shared → Prop} {tk : Nat} {m' : Str → Option Value}
    (F : Fr h₀ L h' m') (N : News h₀ L h' ((I, oI) :: (L0, o1) :: R)) (hnf : NotFields o1) (hso : SlotOf oB o1) (hj : J m') : PairPost h₀ L L0 I oI oB R J s₁ Q .next { s₁ with heap := h', toks := tk } := ⟨h', tk, m', o1, rfl, F, N, hnf, hso, hj⟩
noncomputable def NewsAll (h₀ : Heap) (L : Addr) (R : List (Addr × Obj)) (P : Heap → Prop) : Prop := ∀ h, News h₀ L h R → P h
section
variable {prog : Program} {w : World} {A : Around} {E : Value → Shared → Prop} {s : Shared} {env : Env} {h₀ : Heap} {target : Expr} {body : List Stmt} {Q : Flow → Shared → Prop}
theorem pairs_iter {all : List (Addr × Obj)} {L0 ax : Addr} {o0 oB lo : Obj} {vs : List Value} {n : Nat} {m₀ : Str → Option Value} (J : (Str → Option Value) → Prop) (V : Value → List (Addr × Obj) → Prop)
    (hh : A.handled = none) (F : Fr h₀ env.locals s.heap m₀) (N : News h₀ env.locals s.heap all) (hs : all = all.dropLast ++ [(L0, o0)]) (hm : (ax, lo) ∈ all.dropLast) (hc : lo.cls = .type "list") (hd : lo.data = .seq vs.toArray n)
    (hne : ∀ p ∈ all.dropLast, @Ne Nat p.1 L0) (hnf : NotFields o0) (hso : SlotOf oB o0) (j0 : J m₀) (hV : ∀ v ∈ vs, V v all.dropLast)
    (turn : ∀ (R : List (Addr × Obj)) v h tk m I oI o1, V v R → (∀ p ∈ R, p.1 ≠ L0) → (@Ne Nat I L0) → J m → NotFields o1 → SlotOf oB o1 → Fr h₀ env.locals h m → News h₀ env.locals h ((I, oI) :: (L0, o1) :: R) →
      wpAny (model prog w) A (assign target env v) (fun _ s₂ => wpAny (model prog w) A (execs body env) (PairPost h₀ env.locals L0 I oI oB R J { s with heap := h, toks := tk } Q) E s₂) E { s with heap := h, toks := tk })
    (done : ∀ h tk m o1, J m → NotFields o1 → SlotOf oB o1 → Fr h₀ env.locals h m → (∀ p ∈ (L0, o1) :: all.dropLast, h.get? p.1 = some p.2 ∧ p.1 ≠ env.locals ∧ h₀.get? p.1 = none) → Q .next { s with heap := h, toks := tk }) :
    wpAny (model prog w) A (pyIter (.ref ax)) (fun it s₂ => TurnsAt prog w A h₀ env target body Q E it s₂) E s := by
  generalize all.dropLast = R at *
  have N1 : News h₀ env.locals s.heap ((L0, o0) :: R) := fun p hp => N p (by
    rw [hs]
    rcases List.mem_cons.mp hp with q | q
    · rw [q]; exact List.mem_append_right _ (.head _)
    · exact List.mem_append_left _ q)
  clear N hs
  refine iter_listTurns hh F N1 (.tail _ hm) hc hd fun I hI => ?_
  have hIm : ∀ p ∈ R, @Ne Nat p.1 I := fun p hp => Nat.ne_of_lt (hI p (.tail _ hp))
  have hI0 : @Ne Nat I L0 := Nat.ne_of_gt (hI _ (.head _))
  have key : ∀ (ws : List Value) (m : Str → Option Value) (o1 : Obj), (∀ v ∈ ws, V v R) → J m → NotFields o1 → SlotOf oB o1 → ItemsRest prog w A E h₀ env target body Q s [(I, "list_iterator")] [(ax, lo)] (ws.map .val) m ((L0, o1) :: R) := by
    intro ws
    induction ws with
    | nil => intro m o1 _ hj hf hs; exact ItemsRest.zero fun h tk F' N' => done h tk m o1 hj hf hs F' N'
    | cons v ws ih =>
      intro m o1 hv hj hf hs
      refine ItemsRest.val fun h tk F' => AllObj.cons fun oI _ => AllObj.nil fun N' => ?_
      refine wpAny_mono (turn R v h tk m I oI o1 (hv v (.head _)) hne hI0 hj hf hs F' N') (fun _ s₂ q => wpAny_mono q (fun f s₃ q => ?_) fun _ _ e => e) fun _ _ e => e
      have fin : (∃ h' tk' m' o1, s₃ = { s with heap := h', toks := tk' } ∧ Fr h₀ env.locals h' m' ∧ News h₀ env.locals h' ((I, oI) :: (L0, o1) :: R) ∧ NotFields o1 ∧ SlotOf oB o1 ∧ J m') →
          UnrEndW h₀ env.locals { s with heap := h, toks := tk } [(I, oI)] (fun m' n' => SubL [(ax, lo)] n' ∧ ItemsRest prog w A E h₀ env target body Q s [(I, "list_iterator")] [(ax, lo)] (ws.map .val) m' n') s₃ := by
        rintro ⟨h', tk', m', o2, rfl, F2, N2, f2, s2, j2⟩
        refine ⟨h', tk', m', (L0, o2) :: R, rfl, F2, N2, fun p hp q hq => ?_, ⟨.tail _ hm, trivial⟩, ih m' o2 (fun v hv' => hv v (.tail _ hv')) j2 f2 s2⟩
        rw [List.mem_singleton.mp hq]
        rcases List.mem_cons.mp hp with z | z
        · rw [z]; exact fun e => hI0 e.symm
        · exact hIm p z
      cases f with
      | ret v => exact q
      | brk => exact q
      | next => exact fin q
      | cont => exact fin q
  exact key vs m₀ o0 hV j0 hnf hso
end
theorem news_tail2 {h₀ h : Heap} {L : Addr} {a b : Addr × Obj} {R : List (Addr × Obj)} (N : News h₀ L h (a :: b :: R)) : News h₀ L h R := fun p hp => N p (.tail _ (.tail _ hp))
theorem all_cons {r : Addr} {P : Addr × Obj} {l : List (Addr × Obj)} (a : @Ne Nat P.1 r) (b : ∀ p ∈ l, @Ne Nat p.1 r) : ∀ p ∈ P :: l, @Ne Nat p.1 r := fun p hp => by
  rcases List.mem_cons.mp hp with z | z
  · rw [z]; exact a
  · exact b p z
theorem vals_cons {V : Value → List (Addr × Obj) → Prop} {R : List (Addr × Obj)} {v : Value} {l : List Value} (a : V v R) (b : ∀ v ∈ l, V v R) : ∀ x ∈ v :: l, V x R := fun x hx => by
  rcases List.mem_cons.mp hx with z | z
  · rw [z]; exact a
  · exact b x z
theorem vals_nil {V : Value → List (Addr × Obj) → Prop} {R : List (Addr × Obj)} : ∀ x ∈ ([] : List Value), V x R := fun _ h => nomatch h
section
variable {prog : Program} {w : World} {A : Around} {E : Value → Shared → Prop} {s : Shared} {env : Env} {h₀ : Heap} {target : Expr} {body : List Stmt} {Q : Flow → Shared → Prop}
noncomputable def PairsAt (h₀ : Heap) (L L0 : Addr) (oB : Obj) (J : (Str → Option Value) → Prop) (V : Value → List (Addr × Obj) → Prop) (K : List (Addr × Obj) → Prop) (s : Shared) (xv : Value) (s₁ : Shared) : Prop :=
  ∃ ax all lo vs n o0 m₀ h tk, xv = .ref ax ∧ s₁ = { s with heap := h, toks := tk } ∧ Fr h₀ L h m₀ ∧ News h₀ L h all ∧ all = all.dropLast ++ [(L0, o0)] ∧ (ax, lo) ∈ all.dropLast ∧ lo.cls = .type "list" ∧ lo.data = .seq (List.toArray vs) n ∧
    (∀ p ∈ all.dropLast, @Ne Nat p.1 L0) ∧ NotFields o0 ∧ SlotOf oB o0 ∧ J m₀ ∧ K all.dropLast ∧ ∀ v ∈ vs, V v all.dropLast
theorem For_pairs {iter : Expr} {pos : Pos} {m : Str → Option Value} {L0 : Addr} {oB : Obj} (_F : Fr h₀ env.locals s.heap m) (J : (Str → Option Value) → Prop) (V : Value → List (Addr × Obj) → Prop) (K : List (Addr × Obj) → Prop)
    (turn : ∀ (R : List (Addr × Obj)) v h tk m I oI o1, V v R → (∀ p ∈ R, p.1 ≠ L0) → (@Ne Nat I L0) → J m → NotFields o1 → SlotOf oB o1 → Fr h₀ env.locals h m → News h₀ env.locals h ((I, oI) :: (L0, o1) :: R) →
      wpAny (model prog w) A (assign target env v) (fun _ s₂ => wpAny (model prog w) A (execs body env) (PairPost h₀ env.locals L0 I oI oB R J { s with heap := h, toks := tk } Q) E s₂) E { s with heap := h, toks := tk })
    (done : ∀ (R : List (Addr × Obj)) h tk m o1, J m → K R → NotFields o1 → SlotOf oB o1 → Fr h₀ env.locals h m → News h₀ env.locals h ((L0, o1) :: R) → Q .next { s with heap := h, toks := tk })
    (h : wpAny (model prog w) A (eval iter env) (PairsAt h₀ env.locals L0 oB J V K s) E s)
    (hh : A.handled = none)
    (hs : ∀ x, foldedSetIterable iter env x = pure x := by intro _; rfl)
    (hE : PassesOwn (model prog w) A env E := by passes_own) :
    wpAny (model prog w) A (exec (.For target iter body [] pos) env) Q E s := by
  refine For_turns _F (wpAny_mono h (fun xv s₁ h₁ => ?_) fun _ _ e => e) hs hE
  obtain ⟨ax, all, lo, vs, n, o0, m₀, h', tk', rfl, rfl, F, N, hsp, hm, hc, hd, hne, hnf, hso, j0, k0, hV⟩ := h₁
  exact pairs_iter (s := { s with heap := h', toks := tk' }) J V hh F N hsp hm hc hd hne hnf hso j0 hV turn fun h tk m o1 a b c d e => done _ h tk m o1 a k0 b c d e
theorem pairsAt {L L0 ax : Addr} {oB o0 lo : Obj} {J : (Str → Option Value) → Prop} {V : Value → List (Addr × Obj) → Prop} {K : List (Addr × Obj) → Prop} {vs : List Value} {n tk : Nat} {h : Heap} {m₀ : Str → Option Value} {all : List (Addr × Obj)}
    (F : Fr h₀ L h m₀) (N : News h₀ L h all) (hs : all = all.dropLast ++ [(L0, o0)]) (hm : (ax, lo) ∈ all.dropLast) (hc : lo.cls = .type "list") (hd : lo.data = .seq (List.toArray vs) n)
    (hne : ∀ p ∈ all.dropLast, @Ne Nat p.1 L0) (hnf : NotFields o0) (hso : SlotOf oB o0) (j0 : J m₀) (k0 : K all.dropLast) (hV : ∀ v ∈ vs, V v all.dropLast) : PairsAt h₀ L L0 oB J V K s (.ref ax) { s with heap := h, toks := tk } :=
  ⟨ax, all, lo, vs, n, o0, m₀, h, tk, rfl, rfl, F, N, hs, hm, hc, hd, hne, hnf, hso, j0, k0, hV⟩
end
end
-- part oq
example : True := by
 w_top off
 exact True.intro
namespace T_oq
theorem on_oq : True := True.intro
end T_oq
section
open T_oa T_rx T_ry T_rz T_wo T_do T_so T_ca T_la T_vec T_nw T_cn T_mv T_lp T_cf T_pr T_ot T_oq T_mem
example : True := by
 (k_with "k_memO" => ((fail_if_success (fail_if_success (have := @on_oq))); (first | k_extra "k_memR" | k_mem)))
 exact True.intro
noncomputable def wordsL : List Str := [Str.ofString "left", Str.ofString "l", Str.ofString "r", Str.ofString "righ", Str.ofString "c", Str.ofString "centre", Str.ofString "none", Str.ofString "n", Str.ofString "", Str.ofString "x", Str.ofString "lefty"]
noncomputable def WordGood (y : Str) : Prop := y.length ≤ 6 ∧ (sofAns y == refusedS) = false ∧ (sideAns (sideTw y) != sofAns y) = false
noncomputable def WordBad (y : Str) : Prop := y.length ≤ 6 ∧ (sofAns y == refusedS) = true ∧ (sideAns (sideTw y) != sideMsg) = false
theorem words_all : ∀ y ∈ wordsL, WordGood y ∨ WordBad y := by
  unfold WordGood WordBad
  decide +kernel
theorem word_pick {x : Value} {t1 t2 t3 t4 t5 t6 t7 t8 t9 t10 t11 : Tok} (h : x ∈ [Value.str (Str.ofString "left") t1, .str (Str.ofString "l") t2, .str (Str.ofString "r") t3, .str (Str.ofString "righ") t4, .str (Str.ofString "c") t5, .str (Str.ofString "centre") t6, .str (Str.ofString "none") t7, .str (Str.ofString "n") t8, .str (Str.ofString "") t9, .str (Str.ofString "x") t10, .str (Str.ofString "lefty") t11, .none]) :
    (∃ y t, x = .str y t ∧ WordGood y) ∨ (∃ y t, x = .str y t ∧ WordBad y) ∨ x = .none := by
  simp only [List.mem_cons, List.not_mem_nil, or_false] at h
  have key : ∀ y t, x = .str y t → y ∈ wordsL → (∃ y t, x = .str y t ∧ WordGood y) ∨ (∃ y t, x = .str y t ∧ WordBad y) ∨ x = .none := fun y t e hy => by
    rcases words_all y hy with g | b
    · exact .inl ⟨y, t, e, g⟩
    · exact .inr (.inl ⟨y, t, e, b⟩)
  rcases h with q | q | q | q | q | q | q | q | q | q | q | q
  all_goals first | exact .inr (.inr q) | exact key _ _ q (by unfold wordsL; simp only [List.mem_cons, true_or, or_true])
theorem truth_pick {x : Value} {t1 t2 : Tok} (h : x ∈ [Value.int 1 t1, .int 0 t2, .none]) : x = .int 1 t1 ∨ x = .int 0 t2 ∨ x = .none := by
  simpa using h
example : True := by
 (k_with "subscriptTail" => ((fail_if_success (fail_if_success (have := @on_oq))); ((k_here; (with_reducible refine (?_ : wpAny _ _ (subscriptTail _ _ (Value.ref _) (Value.int _ _)) _ _ _)); k_dflt (refine' pick_any ?ka ?kb ?kc ?ke ?_ ?kf ?kg; (case ka => k_extra "ktr_units"); (case kb => assumption); (case kc => first | assumption | (simp only [List.length_cons, List.length_nil]; omega)); (case ke => omega); (case kf => with_unfolding_all rfl); (case kg => intro _; with_unfolding_all rfl); k_whole; intro x9 hx9; first | (rcases word_pick hx9 with ⟨y9, t9, q9, hy9, hy91, hy92⟩ | ⟨y9, t9, q9, hy9, hy91, hy92⟩ | q9 <;> subst q9) | (rcases truth_pick hx9 with q9 | q9 | q9 <;> subst q9)); (try k_sweep); (try dsimp only); (try k_fold)))))
 exact True.intro
theorem sideAns_some {x : Str} : sideAns (some x) = x := rfl
theorem sideAns_none : sideAns none = sideMsg := rfl
theorem thread2_b {prog : Program} {w : World} {p : Program} {loose : List Str} {mean : ExcName → Option Value} {mg mb : Str → Option Value} {dp un : Nat} {fs : Option (List Env)} {gd : Option (List Code)} {s : Shared} {Q E : Value → Shared → Prop} {g : Heap} {L : Addr} {m : Str → Option Value} {news : List (Addr × Obj)} {sp : Addr} {vs : List Value} {ns : List Int} {n : Nat} {t : Tok} {newsF : Obj → List (Addr × Obj)}
    (C : Site w p loose mean mg mb g) (F : Fr g L s.heap m) (N : News g L s.heap news) (U : UpdF sp (listOf vs.toArray n) news newsF) (hdd : dp + 1 < recursionLimit) (hu : un + 100 < cLine)
    (hv : IntsAre vs ns) (hb : ∀ i ∈ ns, 0 ≤ i ∧ i < 163) (hs : vs.length ≤ 1000)
    (h : ∀ b : Bool, ∀ t' vs' ns' n' h' tk', Fr g L h' m → News g L h' (newsF (listOf vs'.toArray n')) → IntsAre vs' ns' → (∀ i ∈ ns', 0 ≤ i ∧ i < 163) → vs'.length ≤ 1000 → Q (.int (if b = true then 1 else 0) t') { s with heap := h', toks := tk' }) :
    wpAny (model prog w) (At dp un fs gd) (call (.ref 326) [.ref sp, .int 2 t]) Q E s :=
  thread_b C F N U hdd hu hv hb hs (by decide) (by decide) fun r t' vs' ns' n' h' tk' a b c d e r0 r1 => by
    have h2 : r = 0 ∨ r = 1 := by omega
    rcases h2 with q | q <;> subst q
    · exact h false t' vs' ns' n' h' tk' a b c d e
    · exact h true t' vs' ns' n' h' tk' a b c d e
example : True := by
 (k_with "call ref" => ((fail_if_success (fail_if_success (have := @on_oq))); ((k_here; (with_reducible refine (?_ : wpAny _ _ (call (Value.ref 331) _) _ _ _)); k_dflt (first | (refine' side_of_ok ?kC ?kd ?ku ?kx ?_; (case ku => k_extra "kwd_rel"); (case kx => omega)) | (refine' side_of_none ?kC ?kd ?_)); (case kC => k_extra "ktr_rel"); (case kd => k_extra "ktr_unf"); k_whole; refine Ret.one (by k_asm) (by k_asm) ?_; intro t9 h9 tk9 F9 N9; (try k_sweep); (try dsimp only); (try k_fold)))))
 exact True.intro
example : True := by
 (k_with "top_caught" => ((fail_if_success (fail_if_success (have := @on_oq))); (first | exact SideIs.none | exact SideIs.chr (vs := []) (by k_extra "ktd_rel") (by k_extra "ktr_units") (by omega) (Nat.le_of_ble_eq_true rfl) | exact SideIs.chr (vs := [_]) (by k_extra "ktd_rel") (by k_extra "ktr_units") (by omega) (Nat.le_of_ble_eq_true rfl) | exact SideIs.chrN (vs := []) (by k_extra "ktd_rel") (by k_extra "ktr_units") (Nat.le_of_ble_eq_true rfl) | exact SideIs.chrN (vs := [_]) (by k_extra "ktd_rel") (by k_extra "ktr_units") (Nat.le_of_ble_eq_true rfl) | exact SideIs.int (by k_extra "ktd_rel"))))
 exact True.intro
example : True := by
 (k_with "call ref" => ((fail_if_success (fail_if_success (have := @on_oq))); ((k_here; (with_reducible refine (?_ : wpAny _ _ (call (Value.ref 338) (Value.str (Str.ofString "side") _ :: _)) _ _ _)); k_dflt (refine' asked_side_b ?kC ?kB ?kF ?kN ?kU ?kn ?kso ?kf ?kk ?kd ?ku ?kv ?_; (case kC => exact ⟨by k_asm, by k_asm⟩); (case kB => assumption); (case kF => k_asm); (case kN => k_asm); (case kU => k_updF); (case kn => assumption); (case kso => assumption); (case kf => rfl); (case kk => rfl); (case kd => k_extra "ktr_unf"); (case ku => k_extra "kwd_rel"); (case kv => k_extra "top_caught"); k_whole; intro v9 h9 o9 tk9 F9 N9 hf9 ho9 e9; (try dsimp only at N9 e9); (try simp only [sideAns_some, sideAns_none] at e9); obtain ⟨t9, q9⟩ := e9; subst q9; (try k_sweep); (try dsimp only); (try k_fold))))))
 exact True.intro
example : True := by
 (k_with "call ref" => ((fail_if_success (fail_if_success (have := @on_oq))); ((k_here; (with_reducible refine (?_ : wpAny _ _ (call (Value.ref 326) [_, Value.int 2 _]) _ _ _)); k_dflt (refine' thread2_b ?kC ?kF ?kN ?kU ?kd ?ku ?kv ?kb ?ks ?_; (case kC => exact ⟨by k_asm, by k_asm⟩); (case kF => k_asm); (case kN => k_asm); (case kU => k_updF); (case kd => k_extra "ktr_unf"); (case ku => k_extra "kwd_rel"); (case kv => assumption); (case kb => assumption); (case ks => assumption); k_whole; intro b9 t9 vs9 ns9 n9 h9 tk9 F9 N9 hv9 hb9 hs9; (cases b9 <;> simp only [Bool.false_eq_true, if_false, if_true]); (all_goals (try k_sweep)); (all_goals (try dsimp only)); (all_goals (try k_fold)))))))
 exact True.intro
example : True := by
 (k_with "top_name" => ((fail_if_success (fail_if_success (have := @on_oq))); (first | exact FlagIs.none | exact FlagIs.null ⟨_, _, _, _, News.get (by k_asm) (by k_extra "k_memO"), News.get (by k_asm) (by k_extra "k_memO")⟩ | exact FlagIs.lglN (by k_extra "ktd_rel") (by k_extra "ktr_units") | exact FlagIs.lgl (by k_extra "ktd_rel") (by k_extra "ktr_units") | exact FlagIs.lgl0 (by k_extra "ktd_rel") (by k_extra "ktr_units") | exact FlagIs.int (by k_extra "ktd_rel"))))
 exact True.intro
example : True := by
 (k_with "call ref" => ((fail_if_success (fail_if_success (have := @on_oq))); ((k_here; (with_reducible refine (?_ : wpAny _ _ (call (Value.ref 276) _) _ _ _)); k_dflt (refine' flag_option_ok ?kC ?kd ?kv ?_; (case kC => k_extra "ktr_rel"); (case kd => k_extra "ktr_unf"); (case kv => k_extra "top_name"); k_whole; intro v9 h9 tk9 keep9 q9; subst q9; have F9 := fr_on (by k_asm) keep9; have N9 := news_on (by k_asm) keep9; (try simp only [List.nil_append, List.cons_append, List.append_nil] at N9); clear keep9; (try k_sweep); (try dsimp only); (try k_fold))))))
 exact True.intro
theorem whole_half {w : World} {h : Heap} {u f : Int} {a l tp : Addr} {t t' : Tok} (hv : VecAt w h a "double" l) (hl : h.IsList l #[.ref tp]) (ht : IsTup h tp #[.int (2 * f + 1) t, .int 2 t']) (h1 : -1000 ≤ f) (h2 : f ≤ 1000) : WholeIs w h u (.ref a) (some f) := by
  have e : Int.fdiv (2 * f + 1) 2 = f := by rw [Int.fdiv_eq_ediv_of_nonneg _ (by decide)]; omega
  have := WholeIs.dbl (usual := u) hv hl ht (by decide) (by decide) (by omega)
  rw [e] at this
  exact this
example : True := by
 (k_with "top_argsB" => ((fail_if_success (fail_if_success (have := @on_oq))); (first | exact WholeIs.none | exact WholeIs.null ⟨_, _, _, _, News.get (by k_asm) (by k_extra "k_memO"), News.get (by k_asm) (by k_extra "k_memO")⟩ | exact WholeIs.int1 (by k_extra "ktd_rel") (by k_extra "ktr_units") | exact WholeIs.intN (by k_extra "ktd_rel") (by k_extra "ktr_units") | exact WholeIs.int2 (by k_extra "ktd_rel") (by k_extra "ktr_units") | exact whole_half (by k_extra "ktd_rel") (by k_extra "ktr_units") (by k_extra "ktr_units") (by omega) (by omega) | exact WholeIs.dbl0 (by k_extra "ktd_rel") (by k_extra "ktr_units") (by k_extra "ktr_units") | exact WholeIs.chr (by k_extra "ktd_rel") | exact WholeIs.lgl (by k_extra "ktd_rel"))))
 exact True.intro
example : True := by
 (k_with "call ref" => ((fail_if_success (fail_if_success (have := @on_oq))); ((k_here; (with_reducible refine (?_ : wpAny _ _ (call (Value.ref 338) (Value.str (Str.ofString "whole") _ :: _)) _ _ _)); k_dflt (refine' asked_whole_b ?kC ?kB ?kF ?kN ?kU ?kn ?kso ?kf ?kk ?kd ?ku ?kv ?_; (case kC => exact ⟨by k_asm, by k_asm⟩); (case kB => assumption); (case kF => k_asm); (case kN => k_asm); (case kU => k_updF); (case kn => assumption); (case kso => assumption); (case kf => rfl); (case kk => rfl); (case kd => k_extra "ktr_unf"); (case ku => k_extra "kwd_rel"); (case kv => k_extra "top_argsB"); k_whole; intro v9 h9 o9 tk9 F9 N9 hf9 ho9 e9; (try dsimp only at N9 e9); obtain ⟨t9, q9⟩ := e9; subst q9; (try k_sweep); (try dsimp only); (try k_fold))))))
 exact True.intro
example : True := by
 (k_with "call ref" => ((fail_if_success (fail_if_success (have := @on_oq))); ((k_here; (with_reducible refine (?_ : wpAny _ _ (call (Value.ref 338) (Value.str (Str.ofString "digits") _ :: _)) _ _ _)); k_dflt (refine' asked_digits_b ?kC ?kB ?kF ?kN ?kU ?kn ?kso ?kf ?kk ?kd ?ku ?kv ?_; (case kC => exact ⟨by k_asm, by k_asm⟩); (case kB => assumption); (case kF => k_asm); (case kN => k_asm); (case kU => k_updF); (case kn => assumption); (case kso => assumption); (case kf => rfl); (case kk => rfl); (case kd => k_extra "ktr_unf"); (case ku => k_extra "kwd_rel"); (case kv => k_extra "top_argsB"); k_whole; intro v9 h9 o9 tk9 F9 N9 hf9 ho9 e9; (try dsimp only at N9 e9); first | (rw [digAns_some rfl (by omega) (by omega)] at e9) | (rw [digAns_none (by intro r q; cases q; omega)] at e9)); obtain ⟨t9, q9⟩ := e9; subst q9; (try k_sweep); (try dsimp only); (try k_fold)))))
 exact True.intro
noncomputable def OpCut (g : Heap) (L sp L0 : Addr) (oB : Obj) (s : Shared) (R : (Str → Option Value) → Prop) (s' : Shared) : Prop :=
  ∃ h tk m vs ns n o0, s' = { s with heap := h, toks := tk } ∧ Fr g L h m ∧ News g L h [(sp, listOf vs.toArray n), (L0, o0)] ∧ NotFields o0 ∧ SlotOf oB o0 ∧ m "spool" = some (.ref sp) ∧ IntsAre vs ns ∧ (∀ i ∈ ns, (0 : Int) ≤ i ∧ i < 163) ∧ vs.length ≤ 1000 ∧ R m
theorem opCut {g h : Heap} {L sp L0 : Addr} {oB o0 : Obj} {s : Shared} {R : (Str → Option Value) → Prop} {tk n : Nat} {m : Str → Option Value} {vs : List Value} {ns : List Int} {news : List (Addr × Obj)}
    (F : Fr g L h m) (N : News g L h news) (hm : (sp, listOf vs.toArray n) ∈ news) (h0 : (L0, o0) ∈ news) (hnf : NotFields o0) (hso : SlotOf oB o0) (ms : m "spool" = some (.ref sp)) (hv : IntsAre vs ns) (hb : ∀ i ∈ ns, (0 : Int) ≤ i ∧ i < 163) (hs : vs.length ≤ 1000) (hr : R m) :
    OpCut g L sp L0 oB s R { s with heap := h, toks := tk } := ⟨h, tk, m, vs, ns, n, o0, rfl, F, fun q hq => by
      rcases List.mem_cons.mp hq with z | z
      · rw [z]; exact N _ hm
      · rw [List.mem_singleton.mp z]; exact N _ h0, hnf, hso, ms, hv, hb, hs, hr⟩
noncomputable def TellRel (d t : Str) : Prop := (d = refusedS ∧ (t != sideMsg) = false) ∨ ((d == refusedS) = false ∧ (t != d) = false)
theorem tell_good {y : Str} (h1 : (sofAns y == refusedS) = false) (h2 : (sideAns (sideTw y) != sofAns y) = false) : TellRel (sofAns y) (sideAns (sideTw y)) := .inr ⟨h1, h2⟩
theorem tell_bad {y : Str} (h1 : (sofAns y == refusedS) = true) (h2 : (sideAns (sideTw y) != sideMsg) = false) : TellRel (sofAns y) (sideAns (sideTw y)) := .inl ⟨eq_of_beq h1, h2⟩
theorem tell_none : TellRel refusedS sideMsg := .inl ⟨rfl, by simp⟩
example : True := by
 (k_with "top_args" => ((fail_if_success (fail_if_success (have := @on_oq))); (first | exact True.intro | exact ⟨_, by with_unfolding_all rfl⟩ | exact ⟨_, _, _, _, by with_unfolding_all rfl, by with_unfolding_all rfl, tell_good (by assumption) (by assumption)⟩ | exact ⟨_, _, _, _, by with_unfolding_all rfl, by with_unfolding_all rfl, tell_bad (by assumption) (by assumption)⟩ | exact ⟨_, _, _, _, by with_unfolding_all rfl, by with_unfolding_all rfl, tell_none⟩)))
 exact True.intro
example : True := by
 (k_with "execs cons" => ((fail_if_success (fail_if_success (have := @on_oq))); ((k_here; (rename CutAt _ _ _ _ _ _ _ _ => hC9); (with_reducible refine CutAt.use hC9 ?_); k_dflt (refine' opCut ?kF ?kN ?km ?k0 ?kn ?kso ?ks ?kv ?kb ?kl ?kr; (case kF => k_asm); (case kN => k_asm); (case km => k_extra "k_memO"); (case k0 => k_extra "k_memO"); (case kn => assumption); (case kso => assumption); (case ks => with_unfolding_all rfl); (case kv => assumption); (case kb => assumption); (case kl => assumption); (case kr => k_extra "top_args"))))))
 exact True.intro
theorem two_lt {news : List (Addr × Obj)} {D sp L0 : Addr} {a b : Obj} (l : ∀ p ∈ news, p.1 < D) (h1 : (sp, a) ∈ news) (h2 : (L0, b) ∈ news) : (@LT.lt Nat _ sp D) ∧ (@LT.lt Nat _ L0 D) := ⟨l _ h1, l _ h2⟩
example : True := by
 (k_with "newTuple" => ((fail_if_success (fail_if_success (have := @on_oq))); ((k_here; k_dflt (refine' kup_newTuple ?F ?N ?_ ?z; (case F => k_asm); (case N => k_asm); (case z => kmk_size); intro D' h' F' N' l1; (replace l1 := two_lt (sp := sp) (L0 := L0) l1 (by k_extra "k_memR") (by k_extra "k_memR")); (try k_sweep))))))
 exact True.intro
example : True := by
 (k_with "newList" => ((fail_if_success (fail_if_success (have := @on_oq))); ((k_here; k_dflt (refine' newList_K ?k1 ?k2 ?_; (case k1 => k_asm); (case k2 => k_asm); k_whole; intro l' h' F' N' l1; (replace l1 := two_lt (sp := sp) (L0 := L0) l1 (by k_extra "k_memR") (by k_extra "k_memR")); (try k_sweep))))))
 exact True.intro
example : True := by
 (k_with "call ref" => ((fail_if_success (fail_if_success (have := @on_oq))); ((k_here; (with_reducible refine (?_ : wpAny _ _ (call (Value.ref 230) _) _ _ _)); k_dflt (refine' vector_ok ?kC ?kF ?kN ?kd ?ku ?_; (case kC => exact ⟨by k_asm, by k_asm⟩); (case kF => k_asm); (case kN => k_asm); (case kd => k_extra "ktr_unf"); (case ku => k_extra "kwd_rel"); k_whole; intro x' dx' h' tk' t1 t2 t3 t4 t5 F' N' l1 l2; (replace l1 := two_lt (sp := sp) (L0 := L0) l1 (by k_extra "k_memR") (by k_extra "k_memR")); (try k_lt2 l2); (try k_sweep))))))
 exact True.intro
example : True := by
 (k_with "call ref" => ((fail_if_success (fail_if_success (have := @on_oq))); ((k_here; (with_reducible refine (?_ : wpAny _ _ (call (Value.ref 201) _) _ _ _)); k_dflt (refine' null_ok ?kC ?kF ?kN ?kd ?ku ?_; (case kC => exact ⟨by k_asm, by k_asm⟩); (case kF => k_asm); (case kN => k_asm); (case kd => k_extra "ktr_unf"); (case ku => k_extra "kwd_rel"); k_whole; intro x' dx' h' tk' kt t1 t2 F' N' l1 l2; (replace l1 := two_lt (sp := sp) (L0 := L0) l1 (by k_extra "k_memR") (by k_extra "k_memR")); (try k_lt2 l2); (try k_sweep))))))
 exact True.intro
noncomputable def FigIs (m : Str → Option Value) : Prop := ∃ k t, m "figure" = some (.int k t) ∧ -20 ≤ k ∧ k ≤ 40
noncomputable def SpIn (sp : Addr) (R : List (Addr × Obj)) : Prop := ∃ vs ns n, (sp, listOf (List.toArray vs) n) ∈ R ∧ IntsAre vs ns ∧ (∀ i ∈ ns, (0 : Int) ≤ i ∧ i < 163) ∧ vs.length ≤ 1000
noncomputable def DueIs (out : Option Int) (du : Value) : Prop := match out with | some r => ∃ t, du = .int r t | none => ∃ t, du = .str (Str.ofString "") t
noncomputable def PairIs (w : World) (g : Heap) (L : Addr) (u : Int) (v : Value) (R : List (Addr × Obj)) : Prop :=
  ∃ T x du out, v = .ref T ∧ DueIs out du ∧ NewsAll g L R fun h => IsTup h T #[x, du] ∧ WholeIs w h u x out
theorem pair_is {w : World} {g : Heap} {L T : Addr} {u : Int} {x du : Value} {out : Option Int} {R : List (Addr × Obj)} {l : List Value} (hm : (T, ({ cls := .type "tuple", data := .seq l.toArray } : Obj)) ∈ R) (hl : l = [x, du]) (hw : NewsAll g L R fun h => WholeIs w h u x out) (hd : DueIs out du) : PairIs w g L u (.ref T) R := by
  subst hl
  exact ⟨T, x, du, out, rfl, hd, fun h N => ⟨tup_new N hm, hw h N⟩⟩
theorem ne_via {a b x y : Nat} (h2 : a < b) (h1 : x < a ∧ y < a) : b ≠ y := Nat.ne_of_gt (Nat.lt_trans h1.2 h2)
theorem pairs_nil {w : World} {g : Heap} {L : Addr} {u : Int} {R : List (Addr × Obj)} : ∀ v ∈ ([] : List Value), PairIs w g L u v R := fun _ h => nomatch h
theorem pairs_cons {w : World} {g : Heap} {L : Addr} {u : Int} {R : List (Addr × Obj)} {v : Value} {l : List Value} (a : PairIs w g L u v R) (b : ∀ v ∈ l, PairIs w g L u v R) : ∀ x ∈ v :: l, PairIs w g L u x R := vals_cons (V := PairIs w g L u) a b
example : True := by
 (k_with "top_raiseB" => ((fail_if_success (fail_if_success (have := @on_oq))); ((repeat' (first | exact pairs_nil | refine pairs_cons ?_ ?_); all_goals (refine' pair_is ?ka ?kb ?kc ?kd; (case ka => k_extra "k_memO"); (case kb => exact rfl); (case kc => (intro h9 N9; k_extra "top_argsB")); (case kd => exact ⟨_, rfl⟩))))))
 exact True.intro
example : True := by
 (k_with "top_reprB" => ((fail_if_success (fail_if_success (have := @on_oq))); (repeat' (first | exact no_entry | refine all_cons ?_ ?_ | assumption | exact Nat.ne_of_gt (And.right (by assumption)) | exact ne_via (by assumption) (by assumption)))))
 exact True.intro
example : True := by
 (k_with "exec For Tuple List cons nil" => ((fail_if_success (fail_if_success (have := @on_oq))); ((k_here; refine Held.go ?_))))
 exact True.intro
theorem whole_of {w : World} {g h : Heap} {L T : Addr} {u : Int} {x du : Value} {out : Option Int} {R : List (Addr × Obj)} {a b : Addr × Obj} (hA : NewsAll g L R fun h => IsTup h T #[x, du] ∧ WholeIs w h u x out) (N : News g L h (a :: b :: R)) : WholeIs w h u x out := (hA h (news_tail2 N)).2
example : True := by
 (k_with "top_argsB" => ((fail_if_success (fail_if_success (have := @on_oq))); (exact whole_of (by assumption) (by k_asm))))
 exact True.intro
example : True := by
 (k_with "k_updF" => ((fail_if_success (fail_if_success (have := @on_oq))); (refine UpdF.tail (by assumption) (UpdF.head (by assumption)))))
 exact True.intro
end
-- part op
example : True := by
 w_top off
 exact True.intro
namespace T_op
theorem on_op : True := True.intro
end T_op
section
open T_fd T_oa T_rx T_ry T_rz T_wo T_do T_so T_ca T_la T_vec T_nw T_cn T_mv T_lp T_cf T_pr T_ot T_oq T_op
section
variable {prog : Program} {w : World} {p : Program} {loose : List Str} {mean : ExcName → Option Value} {mg mb : Str → Option Value} {dp un : Nat} {fs : Option (List Env)} {gd : Option (List Code)} {s : Shared} {Q E : Value → Shared → Prop} {eL : Env} {L0 : Addr} {o0 : Obj}
theorem options_ok {sp : Addr} {vs : List Value} {ns : List Int} {n : Nat}
    (C : SiteN w p loose mean mg mb s.heap [sp, L0]) (B : Below1 fs eL L0) (hne : @Ne Nat sp L0) (hdd : dp + 20 < recursionLimit) (hu : un + 200 < cLine)
    (hsp : s.heap.get? sp = some (listOf vs.toArray n)) (h0 : s.heap.get? L0 = some o0) (hnf : NotFields o0) (hv0 : IntsAre vs ns) (hb0 : ∀ i ∈ ns, 0 ≤ i ∧ i < 163) (hs0 : vs.length ≤ 1000)
    (ret : RetP s sp L0 o0 Q) :
    wpAny (model prog w) (At dp un fs gd) (call (.ref 345) [.ref sp]) Q E s := by
  refine quietly ?_ ?_
  focus
    have C' : SiteN w p loose mean mg mb s.heap (([(sp, listOf vs.toArray n), (L0, o0)] : List (Addr × Obj)).map (·.1)) := C
    have hn : ∀ q ∈ [(sp, listOf vs.toArray n), (L0, o0)], s.heap.get? q.1 = some q.2 := fun q hq => by
      rcases List.mem_cons.mp hq with z | z
      · rw [z]; exact hsp
      · rw [List.mem_singleton.mp z]; exact h0
    clear C
    k_extra "kwd_inv"
    have hso0 := SlotOf.refl o0
    (with_reducible refine' cut5 ?P ?_ ?_)
    (case P => exact (OpCut g₁ L₁ sp L0 o0 s fun _ => True))
    · rintro s' ⟨h, tk, m, vs, ns, n, o1, rfl, F, N, hnf9, hso9, ms, hv, hb, hs, _⟩
      clear hv0 hb0 hs0 F₁ N₁ hn C' hsp h0 hnf hso0
      (first | replace F := kst1 (m := m) ms F | replace F := kstu1 (m := m) ms F)
      clear ms
      (with_reducible refine' cut3 ?P ?_ ?_)
      (case P => exact (OpCut g₁ L₁ sp L0 o0 s fun m => ∃ u, m "usual" = some (.bool u)))
      · clear hv hb hs F N hnf9 hso9
        rintro s' ⟨h, tk, m, vs, ns, n, o1, rfl, F, N, hnf9, hso9, ms, hv, hb, hs, u, mu⟩
        (first | replace F := kst2 (m := m) ⟨ms, mu⟩ F | replace F := kstu2 (m := m) ⟨ms, mu⟩ F)
        clear ms mu
        have hu9 : (u != u) = false := by simp
        (with_reducible refine' cut1 ?P ?_ ?_)
        (case P => exact (OpCut g₁ L₁ sp L0 o0 s fun _ => True))
        · clear hv hb hs F N hnf9 hso9
          rintro s' ⟨h, tk, m, vs, ns, n, o1, rfl, F, N, hnf9, hso9, ms, hv, hb, hs, _⟩
          (first | replace F := kst1 (m := m) ms F | replace F := kstu1 (m := m) ms F)
          clear ms
          k_steps
          unfold Held
          (rename Fr _ _ _ _ => F9)
          (rename News _ _ _ _ => N9)
          (with_reducible refine' For_pairs (L0 := L0) (oB := o0) F9 FigIs (PairIs w g₁ L₁ 9) (SpIn sp) ?_ ?_ ?_ ?kh ?hs ?hE)
          (case kh => exact rfl)
          (case hs => intro _; rfl)
          (case hE => passes_own)
          · clear F9 N9 hnf9 hso9
            rintro R v h tk m I oI o1 ⟨T, x, du, out, rfl, hdu, hall⟩ hne hI0 ⟨k, t, mk, k0, k1⟩ hnf hso F N
            (first | replace F := kst1 (m := m) mk F | replace F := kstu1 (m := m) mk F)
            clear mk
            have hT := (hall _ (news_tail2 N)).1
            cases out with
            | some r =>
              obtain ⟨td, rfl⟩ := hdu
              k_steps
              all_goals first
                | exact absurd rfl ‹_ ≠ _›
                | (refine' pair_next ?kF ?kN ?knf ?kso ?kj; (case kF => k_asm); (case kN => k_asm); (case knf => assumption); (case kso => assumption); (case kj => exact ⟨_, _, by with_unfolding_all rfl, k0, k1⟩))
            | none =>
              obtain ⟨td, rfl⟩ := hdu
              k_steps
              all_goals first
                | exact absurd rfl ‹_ ≠ _›
                | (refine' pair_next ?kF ?kN ?knf ?kso ?kj; (case kF => k_asm); (case kN => k_asm); (case knf => assumption); (case kso => assumption); (case kj => exact ⟨_, _, by with_unfolding_all rfl, k0, k1⟩))
          · clear F9 N9 hnf9 hso9
            rintro R h tk m o1 ⟨k, t, mk, k0, k1⟩ ⟨vs, ns, n, hK, hv, hb, hs⟩ hnf9 hso9 F N
            have N' : News g₁ L₁ h [(sp, _), (L0, o1)] := fun q hq => by
              rcases List.mem_cons.mp hq with z | z
              · rw [z]; exact N _ (.tail _ hK)
              · rw [List.mem_singleton.mp z]; exact N _ (.head _)
            clear N hK
            (first | replace F := kst1 (m := m) mk F | replace F := kstu1 (m := m) mk F)
            clear mk
            k_steps
            all_goals first
              | exact absurd rfl ‹_ ≠ _›
              | exact opt_end ret hg₁ (by k_asm) (by k_asm) (by k_extra "k_memO") (by k_extra "k_memO") (by assumption) hv hb hs (by simp)
          · k_steps
            refine' pairsAt ?kF ?kN ?ks ?km ?kc ?kd ?kne ?knf ?kso ?kj ?kk ?kV
            (case kF => k_asm)
            (case kN => k_asm)
            (case ks => with_unfolding_all rfl)
            all_goals (try dsimp only [List.dropLast])
            (case km => k_extra "k_memO")
            (case kc => exact rfl)
            (case kd => exact rfl)
            (case knf => assumption)
            (case kso => assumption)
            (case kk => exact ⟨_, _, _, by k_extra "k_memO", by assumption, by assumption, by assumption⟩)
            (case kj => exact ⟨_, _, by with_unfolding_all rfl, by omega, by omega⟩)
            (case kne => k_extra "top_reprB")
            (case kV =>
              refine' pairs_cons ?p1 (pairs_cons ?p2 (pairs_cons ?p3 (pairs_cons ?p4 (pairs_cons ?p5 (pairs_cons ?p6 (pairs_cons ?p7 (pairs_cons ?p8 (pairs_cons ?p9 (pairs_nil)))))))))
              (case p1 => refine' pair_is ?a ?b ?c ?d; (case a => k_extra "k_memO"); (case b => exact rfl); (case c => (intro h9 N9; exact WholeIs.none)); (case d => exact ⟨_, rfl⟩))
              (case p2 => refine' pair_is ?a ?b ?c ?d; (case a => k_extra "k_memO"); (case b => exact rfl); (case c => (intro h9 N9; exact WholeIs.null (null_in N9 (by k_extra "k_memO") (by k_extra "k_memO")))); (case d => exact ⟨_, rfl⟩))
              (case p3 => refine' pair_is ?a ?b ?c ?d; (case a => k_extra "k_memO"); (case b => exact rfl); (case c => (intro h9 N9; exact WholeIs.int1 (vec_in N9 (by k_extra "k_memO") (by k_extra "k_memO")) (News.isList N9 (by k_extra "k_memO")))); (case d => exact ⟨_, rfl⟩))
              (case p4 => refine' pair_is ?a ?b ?c ?d; (case a => k_extra "k_memO"); (case b => exact rfl); (case c => (intro h9 N9; exact whole_half (vec_in N9 (by k_extra "k_memO") (by k_extra "k_memO")) (News.isList N9 (by k_extra "k_memO")) (tup_new N9 (by k_extra "k_memO")) (by omega) (by omega))); (case d => exact ⟨_, rfl⟩))
              (case p5 => refine' pair_is ?a ?b ?c ?d; (case a => k_extra "k_memO"); (case b => exact rfl); (case c => (intro h9 N9; exact WholeIs.intN (vec_in N9 (by k_extra "k_memO") (by k_extra "k_memO")) (News.isList N9 (by k_extra "k_memO")))); (case d => exact ⟨_, rfl⟩))
              (case p6 => refine' pair_is ?a ?b ?c ?d; (case a => k_extra "k_memO"); (case b => exact rfl); (case c => (intro h9 N9; exact WholeIs.int2 (vec_in N9 (by k_extra "k_memO") (by k_extra "k_memO")) (News.isList N9 (by k_extra "k_memO")))); (case d => exact ⟨_, rfl⟩))
              (case p7 => refine' pair_is ?a ?b ?c ?d; (case a => k_extra "k_memO"); (case b => exact rfl); (case c => (intro h9 N9; exact WholeIs.chr (vec_in N9 (by k_extra "k_memO") (by k_extra "k_memO")))); (case d => exact ⟨_, rfl⟩))
              (case p8 => refine' pair_is ?a ?b ?c ?d; (case a => k_extra "k_memO"); (case b => exact rfl); (case c => (intro h9 N9; exact WholeIs.dbl0 (vec_in N9 (by k_extra "k_memO") (by k_extra "k_memO")) (News.isList N9 (by k_extra "k_memO")) (tup_new N9 (by k_extra "k_memO")))); (case d => exact ⟨_, rfl⟩))
              (case p9 => refine' pair_is ?a ?b ?c ?d; (case a => k_extra "k_memO"); (case b => exact rfl); (case c => (intro h9 N9; exact WholeIs.lgl (vec_in N9 (by k_extra "k_memO") (by k_extra "k_memO")))); (case d => exact ⟨_, rfl⟩)))
        · intro hC
          k_steps
          all_goals first
            | exact absurd rfl ‹_ ≠ _›
            | exact absurd (Eq.trans (Eq.symm ‹_ = true›) hu9) Bool.noConfusion
      · intro hC
        k_steps
        all_goals first
          | exact absurd rfl ‹_ ≠ _›
          | exact absurd (Eq.trans (Eq.symm ‹_ = true›) hu9) Bool.noConfusion
    · intro hC
      (with_reducible refine' cut3 ?P ?_ ?_)
      (case P => exact (OpCut g₁ L₁ sp L0 o0 s fun m => ∃ d td t tt, m "due" = some (.str d td) ∧ m "told" = some (.str t tt) ∧ TellRel d t))
      · rintro s' ⟨h, tk, m, vs, ns, n, o1, rfl, F, N, hnf9, hso9, ms, hv, hb, hs, d, td, t, tt, md, mt, rel⟩
        clear hv0 hb0 hs0 F₁ N₁ hn C' hsp h0 hnf hso0
        (first | replace F := kst3 (m := m) ⟨ms, md, mt⟩ F | replace F := kstu3 (m := m) ⟨ms, md, mt⟩ F)
        clear ms md mt
        rcases rel with ⟨r1, r2⟩ | ⟨r1, r2⟩
        · subst r1
          k_steps
          all_goals exact absurd rfl ‹_ ≠ _›
        · k_steps
          all_goals exact absurd rfl ‹_ ≠ _›
      · intro hC2
        clear hC
        k_steps
        all_goals exact absurd rfl ‹_ ≠ _›
  intro hf
  simpa only using (ensure_type_of% (quiet_coe hf (0 : Nat) (by exact rfl)) "" hf)
end
end
-- part pl
example : True := by
 w_top off
 exact True.intro
namespace T_pl
theorem on_pl : True := True.intro
end T_pl
section
open T_nw T_ex T_sc T_sg T_wt T_me T_wh T_sp T_fx T_st T_lp T_cf T_fm T_ct T_vec T_ci T_pl T_mem
noncomputable def fmOkD (x : Option (Int × Int)) (f : Bool × Int) : Decidable (FmOk x f) := match x with
  | none => isTrue trivial
  | some (n, d) => inferInstanceAs (Decidable (0 < d → d < 2 ^ 32 ∧ -2 ^ 32 < n ∧ n < 2 ^ 32 ∧ (f.1 = true → 0 ≤ f.2 ∧ f.2 ≤ 8) ∧ (f.1 = false → f.2 = 1 ∧ 0 < n)))
noncomputable def fracOkD (x : Int × Int) : Decidable (FracOk x) := inferInstanceAs (Decidable (_ ∧ _ ∧ _ ∧ _))
noncomputable abbrev Row := (Int × Int) × Str
noncomputable def shX : List Row := [((100000, 1), Str.ofString "1e+05"), ((123456, 1), Str.ofString "123456"), ((1, 3), Str.ofString "0.3333333"), ((1, 1000), Str.ofString "0.001"), ((1, 10000), Str.ofString "1e-04"), ((0, 0), Str.ofString "NaN"), ((-1, 0), Str.ofString "-Inf"), ((5, 2), Str.ofString "2.5"), ((-7, 1), Str.ofString "-7"), ((1234567891, 1), Str.ofString "1234567891"), ((0, 1), Str.ofString "0"), ((2, 3), Str.ofString "0.6666667"), ((62831853, 20000000), Str.ofString "3.141593")]
noncomputable def ShOk (r : Row) : Prop := nmX (some r.1) = r.2 ∧ FmOk (some r.1) (nmF (some r.1)) ∧ (∀ y ∈ fracsOf (some r.1), FracOk y) ∧ PyData.strOk r.2 = true
noncomputable def shOkD (r : Row) : Decidable (ShOk r) := @instDecidableAnd _ _ (inferInstanceAs (Decidable (_ = _))) (@instDecidableAnd _ _ (fmOkD _ _) (@instDecidableAnd _ _ (@List.decidableBAll _ _ fracOkD _) (inferInstanceAs (Decidable (_ = _)))))
theorem shX_ok : ∀ r ∈ shX, ShOk r := @of_decide_eq_true _ (@List.decidableBAll _ _ shOkD shX) (by decide +kernel)
end
-- part ob
example : True := by
 w_top off
 exact True.intro
namespace T_ob
theorem on_ob : True := True.intro
end T_ob
section
open T_rx T_ry T_rz T_wo T_do T_so T_ca T_cr T_ck T_la T_oa T_pr T_lp T_ln T_cx T_cn T_cl T_vec T_nw T_ci T_ob T_mem
section
variable {prog : Program} {w : World} {p : Program} {loose : List Str} {mean : ExcName → Option Value} {mg mb : Str → Option Value} {dp un : Nat} {fs : Option (List Env)} {gd : Option (List Code)} {s : Shared} {Q E : Value → Shared → Prop} {g : Heap} {L L0 : Addr} {m : Str → Option Value} {env eL : Env} {news : List (Addr × Obj)} {o0 oB : Obj} {newsF : Obj → List (Addr × Obj)}
theorem get_none_base {g h : Heap} {r : Addr} (k : Keeps g h) (n : h.get? r = none) : g.get? r = none := by
  cases z : g.get? r with
  | none => rfl
  | some o => have := k _ _ z; rw [n] at this; cases this
theorem asked_catS_b {v : Value} {t pt : Tok} {pl : Int} {ys : List Str}
    (C : Site w p loose mean mg mb g) (B : Below1 fs eL L0) (F : Fr g L s.heap m) (N : News g L s.heap news) (U : UpdF L0 o0 news newsF) (hnf : NotFields o0) (hso : SlotOf oB o0) (hf : env.frame = some L) (hk : env.scope.kind = .function) (hdd : dp + 16 < recursionLimit) (hu : un + 100 < cLine) (hv : CatIs w s.heap v (some ys)) (hp : pl.natAbs < 1000)
    (ret : ∀ r zs n h' o' tk', Fr g L h' m → News g L h' ((r, listOf zs.toArray n) :: newsF o') → AllNe r (newsF o') → NotFields o' → SlotOf oB o' → StrsAre zs ys → Q (.ref r) { s with heap := h', toks := tk' }) :
    wpAny (model prog w) (At dp un (Option.map (fun l => env :: l) fs) gd) (call (.ref 338) [.str (Str.ofString "cat") t, v, .int pl pt]) Q E s := by
  refine asked_cat_ok (base := g) ⟨C.X.keeps F.keep, C.T.keeps F.keep⟩ C (thru_two B F N (updF_mem U) hnf hf hk) hdd hu hv hp (backQ B F N U hnf hso hf ?_)
  rintro v' h' o' tk' F' N' hf' hs' ⟨r, zs, n, rfl, e1, e2, e3⟩
  obtain ⟨pre, post, hl, hg, _, _⟩ := U.split
  have hsame : (newsF o').map (·.1) = news.map (·.1) := by rw [hg, hl]; simp
  have hne : ∀ q ∈ newsF o', q.1 ≠ r := fun q hq e => by
    have hq' : q.1 ∈ news.map (·.1) := by rw [← hsame]; exact List.mem_map_of_mem hq
    obtain ⟨q', hq', e'⟩ := List.mem_map.mp hq'
    have := (N q' hq').1
    rw [e', e, e1] at this; cases this
  have hLr : r ≠ L := fun e => by
    obtain ⟨oL, es, ep, hL, hr⟩ := F.ns
    rw [← e, e1] at hL; cases hL
  refine ret r zs n h' o' tk' F' (fun q hq => ?_) ?_ hf' hs' e3
  · rcases List.mem_cons.mp hq with z | z
    · rw [z]; exact ⟨e2, hLr, get_none_base F.keep e1⟩
    · exact N' q z
  · have all : ∀ l : List (Addr × Obj), (∀ q ∈ l, q.1 ≠ r) → AllNe r l := by
      intro l
      induction l with
      | nil => intro _; trivial
      | cons a l ih => exact fun h => ⟨h a (.head _), ih fun q hq => h q (.tail _ hq)⟩
    exact all _ hne
theorem asked_catN_b {v : Value} {t pt : Tok} {pl : Int}
    (C : Site w p loose mean mg mb g) (B : Below1 fs eL L0) (F : Fr g L s.heap m) (N : News g L s.heap news) (U : UpdF L0 o0 news newsF) (hnf : NotFields o0) (hso : SlotOf oB o0) (hf : env.frame = some L) (hk : env.scope.kind = .function) (hdd : dp + 16 < recursionLimit) (hu : un + 100 < cLine) (hv : CatIs w s.heap v none) (hp : pl.natAbs < 1000)
    (ret : ∀ tm h' o' tk', Fr g L h' m → News g L h' (newsF o') → NotFields o' → SlotOf oB o' → Q (.str (catMsg pl) tm) { s with heap := h', toks := tk' }) :
    wpAny (model prog w) (At dp un (Option.map (fun l => env :: l) fs) gd) (call (.ref 338) [.str (Str.ofString "cat") t, v, .int pl pt]) Q E s := by
  refine asked_cat_ok (base := g) ⟨C.X.keeps F.keep, C.T.keeps F.keep⟩ C (thru_two B F N (updF_mem U) hnf hf hk) hdd hu hv hp (backQ B F N U hnf hso hf ?_)
  rintro v' h' o' tk' F' N' hf' hs' ⟨tm, rfl⟩
  exact ret tm h' o' tk' F' N' hf' hs'
end
theorem NewsAll.at {g h : Heap} {L : Addr} {R news : List (Addr × Obj)} {P : Heap → Prop} (hA : NewsAll g L R P) (N : News g L h news) (sub : ∀ p ∈ R, p ∈ news) : P h := hA h fun p hp => N p (sub p hp)
theorem NewsAll.more {g : Heap} {L : Addr} {R R' : List (Addr × Obj)} {P : Heap → Prop} (hA : NewsAll g L R P) (sub : ∀ p ∈ R, p ∈ R') : NewsAll g L R' P := fun h N => hA h fun p hp => N p (sub p hp)
theorem sub_tail {R : List (Addr × Obj)} {a : Addr × Obj} {l : List (Addr × Obj)} (h : ∀ p ∈ R, p ∈ l) : ∀ p ∈ R, p ∈ a :: l := fun p hp => .tail _ (h p hp)
theorem sub_self {R : List (Addr × Obj)} : ∀ p ∈ R, p ∈ R := fun _ h => h
section
variable {prog : Program} {w : World} {A : Around} {E : Value → Shared → Prop} {s : Shared} {env : Env} {h₀ : Heap} {x : Str} {body : List Stmt} {Q : Flow → Shared → Prop}
theorem rg_iterF {r : Addr} {b₀ : Int} {t₀ u₀ v₀ : Tok} {n : Nat} {m₀ : Str → Option Value} {news : List (Addr × Obj)} (J : Nat → (Str → Option Value) → List (Addr × Obj) → Prop)
    (hh : A.handled = none) (hr : IsRange s.heap r 0 b₀ 1 t₀ u₀ v₀) (hsmall : Builtin.Range.small 0 b₀ 1 = true) (hn : Builtin.Range.rangeSize 0 b₀ 1 = (n : Int)) (F : Fr h₀ env.locals s.heap m₀) (N : News h₀ env.locals s.heap news) (hj : J 0 m₀ news)
    (turn : ∀ i t m₁ nx h tk I oI, i < n → J i m₁ nx → (∀ p ∈ nx, p.1 ≠ I) → Fr h₀ env.locals h (fun y => if y = x then some (.int (i : Int) t) else m₁ y) → News h₀ env.locals h (nx ++ [(I, oI)]) →
      wpAny (model prog w) A (execs body env) (FvPost h₀ env.locals (J (i + 1)) (I, oI) { s with heap := h, toks := tk } Q) E { s with heap := h, toks := tk })
    (done : ∀ m₁ nx h tk, J n m₁ nx → Fr h₀ env.locals h m₁ → News h₀ env.locals h nx → Q .next { s with heap := h, toks := tk }) :
    wpAny (model prog w) A (pyIter (.ref r)) (fun it s₂ => LoopAtV prog w A h₀ env x body Q E it s₂) E s := by
  refine wpAny_pyIter_range hr hsmall ?_
  have W : Walks prog w A s.heap.objs.size [s.heap.objs.size] [s.heap.objs.size] n (fun i v => i < n ∧ ∃ t, v = .int (0 + i * 1) t)
      (fun i h => IsRangeIter h s.heap.objs.size (0 + (i : Nat) * 1) ((n : Int) - (i : Nat)) 1) := (Walks.range hh _ 0 1 n).bound
  have hL : env.locals < s.heap.objs.size := F.ns.lt
  refine ⟨_, _, _, n, _, _, m₀, news, J, rfl, W, ?_, ?_, ?_, (by show IsRangeIter _ _ _ _ _; rw [hn]; simpa using Heap.get?_push_size _ rfl), F.push _, fun p hp => ⟨Heap.get?_push_of_some _ (N p hp).1, (N p hp).2⟩, hj, ?_, ?_⟩
  · intro q
    rw [List.mem_singleton.mp q] at hL; exact Nat.lt_irrefl _ hL
  · intro b hb
    rw [List.mem_singleton.mp hb]
    exact next_is_new F
  · intro p hp q
    have h1 := Heap.lt_size (N p hp).1
    rw [List.mem_singleton.mp q] at h1
    exact Nat.lt_irrefl _ h1
  · rintro i v m₁ nx s₁ own ⟨h, tk, rfl⟩ hin hP hJ hoff hown hget hall hst F₁ N₁
    obtain ⟨_, t, rfl⟩ := hP
    rw [show (0 + (i : Int) * 1) = (i : Int) by omega] at F₁
    obtain ⟨oI, hoI⟩ : ∃ oI, h.get? s.heap.objs.size = some oI := ⟨_, hst⟩
    have hI := hall _ (.head _) (next_is_new F) _ hoI
    have hone : ∀ p ∈ own, p = (s.heap.objs.size, oI) := by
      intro p hp
      have h2 := List.mem_singleton.mp (hown p hp)
      have h3 := hget p hp
      rw [h2] at h3
      exact Prod.ext h2 (Option.some.inj (h3.symm.trans hoI))
    have hsep : ∀ p ∈ nx, p.1 ≠ s.heap.objs.size := fun p hp q => hoff p hp (List.mem_singleton.mpr q)
    have N₂ : News h₀ env.locals h (nx ++ [(s.heap.objs.size, oI)]) := by
      intro p hp
      rcases List.mem_append.mp hp with hp | hp
      · exact N₁ p (List.mem_append_right _ hp)
      · rw [List.mem_singleton.mp hp]; exact N₁ _ (List.mem_append_left _ hI)
    refine wpAny_mono (turn i t m₁ nx h tk _ oI hin hJ hsep F₁ N₂) (fun f s₂ p => ?_) fun _ _ e => e
    have fin : FvEnd h₀ env.locals (J (i + 1)) (s.heap.objs.size, oI) { s with heap := h, toks := tk } s₂ → LoopStepU h₀ env.locals [s.heap.objs.size] own (J (i + 1)) { s with heap := h, toks := tk } .next s₂ := by
      rintro ⟨h', tk', m', news', nx', e, F', N', hn', ho, ha, hm⟩
      refine ⟨rfl, h', tk', m', nx', e, F', fun p hp => ?_, fun p hp q => ha p hp (List.mem_singleton.mp q), hm⟩
      rcases List.mem_append.mp hp with hp | hp
      · rw [hone p hp]; exact N' _ ho
      · exact N' _ (hn' p hp)
    cases f with
    | ret v => exact .ret p
    | brk => exact .brk p
    | next => exact .next (fin p)
    | cont => exact .cont (fin p)
  · intro h' tk m' news' F' N' _ hJ
    exact done m' news' h' tk hJ F' N'
end
noncomputable def CompG (h₀ : Heap) (L : Addr) (m : Str → Option Value) (s : Shared) (I C D : Addr) (oI oC : Obj) (ys : List Value) (S : List (Addr × Obj) → Prop) (R : Value → List (Addr × Obj) → Prop) (y : Value) (s₂ : Shared) : Prop :=
  ∃ h' tk' all nw', s₂ = { s with heap := h', toks := tk' } ∧ Fr h₀ L h' m ∧ News h₀ L h' all ∧ (∀ p ∈ (I, oI) :: (C, oC) :: (D, LCg.lst ys) :: nw', p ∈ all) ∧ LCg.Off3 I C D nw' ∧ S nw' ∧ R y nw'
theorem compG {h₀ h' : Heap} {L : Addr} {m : Str → Option Value} {s : Shared} {I C D : Addr} {oI oC : Obj} {ys : List Value} {S : List (Addr × Obj) → Prop} {R : Value → List (Addr × Obj) → Prop} {y : Value} {tk' : Nat} {all : List (Addr × Obj)} (nw' : List (Addr × Obj))
    (F : Fr h₀ L h' m) (N : News h₀ L h' all) (sub : ∀ p ∈ (I, oI) :: (C, oC) :: (D, LCg.lst ys) :: nw', p ∈ all) (off : LCg.Off3 I C D nw') (hS : S nw') (hR : R y nw') : CompG h₀ L m s I C D oI oC ys S R y { s with heap := h', toks := tk' } := ⟨h', tk', all, nw', rfl, F, N, sub, off, hS, hR⟩
section
variable {prog : Program} {w : World} {A : Around} {s : Shared} {h₀ : Heap} {L : Addr} {m : Str → Option Value} {env : Env} {elt : Expr} {x : Str} {scope : Scope} {cl : List (Str × Addr)} {S : List (Addr × Obj) → Prop} {P : Nat → Value → Prop} {Fin : List Value → List (Addr × Obj) → Prop}
theorem comp_indG {news : List (Addr × Obj)} (n : Nat) (R : Nat → List Value → List (Addr × Obj) → Prop) (h0 : R 0 [] news)
    (turn : ∀ i ys nw v I oI C oC D m₂ h tk (E' : Value → Shared → Prop), i < n → R i ys nw → P i v → LCg.NsObj oC m₂ → m₂ x = some v → Fr h₀ L h m → News h₀ L h ((I, oI) :: (C, oC) :: (D, LCg.lst ys) :: nw) → LCg.Off3 I C D nw → ((@Ne Nat I C) ∧ (@Ne Nat I D) ∧ (@Ne Nat C D)) →
      wpAny (model prog w) A (eval elt (compEnvC scope cl C env)) (CompG h₀ L m s I C D oI oC ys S fun y nw' => R (i + 1) (ys ++ [y]) nw') E' { s with heap := h, toks := tk })
    (fin : ∀ ys nw, R n ys nw → Fin ys nw) : LCg.CompRest prog w A h₀ L m env elt x scope cl s S P Fin n 0 [] news := by
  have all : ∀ k i ys nw, i + k = n → R i ys nw → LCg.CompRest prog w A h₀ L m env elt x scope cl s S P Fin k i ys nw := by
    intro k
    induction k with
    | zero => intro i ys nw hi hR; rw [Nat.add_zero] at hi; subst hi; exact fin ys nw hR
    | succ k ih =>
      intro i ys nw hi hR
      refine LCg.CompRest.succ fun v I oI C oC D m₂ h tk E' hv hC hx F N off ne => ?_
      refine wpAny_mono (turn i ys nw v I oI C oC D m₂ h tk E' (by omega) hR hv hC hx F N off ne) (fun y s₂ q => ?_) fun _ _ e => e
      obtain ⟨h', tk', all, nw', e, F', N', sub, off', hS, r⟩ := q
      exact ⟨h', tk', nw', e, F', fun p hp => N' p (sub p hp), off', hS, ih (i + 1) (ys ++ [y]) nw' (by omega) r⟩
  exact all n 0 [] news (Nat.zero_add n) h0
end
end
-- part sh
example : True := by
 w_top off
 exact True.intro
namespace T_sh
theorem on_sh : True := True.intro
end T_sh
section
open T_rx T_ry T_rz T_wo T_do T_so T_ca T_la T_oa T_pr T_lp T_ln T_cx T_cn T_cl T_vec T_nw T_ci T_mv T_ck T_cr T_ob T_pl T_ot T_sh T_mem
example : True := by
 (k_with "k_all" => ((fail_if_success (fail_if_success (have := @on_sh))); (assumption)))
 exact True.intro
example : True := by
 (k_with "execs cons" => ((fail_if_success (fail_if_success (have := @on_sh))); ((k_here; (rename CutAt _ _ _ _ _ _ _ _ => hC9); (with_reducible refine CutAt.use hC9 ?_); refine Held.go ?_))))
 exact True.intro
example : True := by
 (k_with "pyIter ref" => ((fail_if_success (fail_if_success (have := @on_sh))); ((k_here; refine Held.go ?_))))
 exact True.intro
example : True := by
 (k_with "call type:range" => ((fail_if_success (fail_if_success (have := @on_sh))); ((k_here; (rename Fr _ _ _ _ => F'); (rename News _ _ _ _ => N'); (with_unfolding_all refine range1_rows F' N' ?_; intro _ _ _ _ _ _ _ _ _)))))
 exact True.intro
example : True := by
 (k_with "kat_tups" => ((fail_if_success (fail_if_success (have := @on_sh))); (first | exact sub_self | assumption | (refine sub_tail ?_; k_extra "kat_tups"))))
 exact True.intro
example : True := by
 (k_with "subscriptTail" => ((fail_if_success (fail_if_success (have := @on_sh))); ((k_here; (with_reducible refine (?_ : wpAny _ _ (subscriptTail _ _ (Value.ref _) (Value.int _ _)) _ _ _)); k_dflt (refine' pick_any ?ka ?kb ?kc ?ke ?_ ?kf ?kg; (case ka => exact NewsAll.at hT1 (by k_asm) (by k_extra "kat_tups")); (case kb => assumption); (case kc => rw [hT2]; assumption); (case ke => omega); (case kf => with_unfolding_all rfl); (case kg => intro _; with_unfolding_all rfl); k_whole; intro x9 hx9; obtain ⟨⟨⟨n8, d8⟩, y8⟩, hr8, T8, u1, u2, u3, q8, hT8⟩ := hT3 x9 hx9; subst q8; dsimp only at hT8; have hT9 := NewsAll.at hT8 (by k_asm) (by k_extra "kat_tups"); (try k_sweep); (try dsimp only); (try k_fold))))))
 exact True.intro
noncomputable def RowIs (g : Heap) (L : Addr) (R : List (Addr × Obj)) (v : Value) (r : Row) : Prop := ∃ T t1 t2 t3, v = .ref T ∧ NewsAll g L R fun h => IsTup h T #[.int r.1.1 t1, .int r.1.2 t2, .str r.2 t3]
noncomputable def TabIn (g : Heap) (L : Addr) (R : List (Addr × Obj)) (tb : Addr) : Prop := ∃ tvs, NewsAll g L R (fun h => h.IsList tb (List.toArray tvs)) ∧ tvs.length = 13 ∧ ∀ v ∈ tvs, ∃ r ∈ shX, RowIs g L R v r
noncomputable def ShCut (g : Heap) (L sp L0 : Addr) (oB : Obj) (s : Shared) (K : (Str → Option Value) → List (Addr × Obj) → Prop) (s' : Shared) : Prop :=
  ∃ h tk m vs ns n o0 R, s' = { s with heap := h, toks := tk } ∧ Fr g L h m ∧ News g L h ((sp, listOf (List.toArray vs) n) :: (L0, o0) :: R) ∧ NotFields o0 ∧ SlotOf oB o0 ∧ m "spool" = some (.ref sp) ∧ IntsAre vs ns ∧ (∀ i ∈ ns, (0 : Int) ≤ i ∧ i < 163) ∧ vs.length ≤ 1000 ∧ (∀ p ∈ R, p.1 ≠ sp) ∧ (∀ p ∈ R, p.1 ≠ L0) ∧ K m R
theorem shCut {g h : Heap} {L sp L0 : Addr} {oB o0 : Obj} {s : Shared} {K : (Str → Option Value) → List (Addr × Obj) → Prop} {tk n : Nat} {m : Str → Option Value} {vs : List Value} {ns : List Int} {news R : List (Addr × Obj)}
    (F : Fr g L h m) (N : News g L h news) (hm : (sp, listOf vs.toArray n) ∈ news) (h0 : (L0, o0) ∈ news) (hR : ∀ p ∈ R, p ∈ news) (hnf : NotFields o0) (hso : SlotOf oB o0) (ms : m "spool" = some (.ref sp)) (hv : IntsAre vs ns) (hb : ∀ i ∈ ns, (0 : Int) ≤ i ∧ i < 163) (hs : vs.length ≤ 1000)
    (r1 : ∀ p ∈ R, p.1 ≠ sp) (r2 : ∀ p ∈ R, p.1 ≠ L0) (hk : K m R) : ShCut g L sp L0 oB s K { s with heap := h, toks := tk } := ⟨h, tk, m, vs, ns, n, o0, R, rfl, F, fun q hq => by
      rcases List.mem_cons.mp hq with z | z
      · rw [z]; exact N _ hm
      · rcases List.mem_cons.mp z with z | z
        · rw [z]; exact N _ h0
        · exact N _ (hR q z), hnf, hso, ms, hv, hb, hs, r1, r2, hk⟩
noncomputable abbrev tupObj (l : List Value) : Obj := { cls := .type "tuple", data := .seq l.toArray }
noncomputable def RowsAre (R : List (Addr × Obj)) (vs : List Value) (rs : List Row) : Prop := vs.length = rs.length ∧ ∀ v ∈ vs, ∃ r ∈ rs, ∃ T t1 t2 t3, v = .ref T ∧ (T, tupObj [.int r.1.1 t1, .int r.1.2 t2, .str r.2 t3]) ∈ R
theorem RowsAre.cons {R : List (Addr × Obj)} {T : Addr} {t1 t2 t3 : Tok} {vs : List Value} {r : Row} {rs : List Row} (a : (T, tupObj [.int r.1.1 t1, .int r.1.2 t2, .str r.2 t3]) ∈ R) (b : RowsAre R vs rs) : RowsAre R (.ref T :: vs) (r :: rs) :=
  ⟨congrArg Nat.succ b.1, fun v hv => (List.mem_cons.mp hv).elim (fun z => ⟨r, .head _, T, t1, t2, t3, z, a⟩) fun z => (b.2 v z).elim fun r' h => ⟨r', .tail _ h.1, h.2⟩⟩
theorem RowsAre.len {R : List (Addr × Obj)} {vs : List Value} {rs : List Row} (b : RowsAre R vs rs) : vs.length = rs.length := b.1
theorem RowsAre.mono {R R' : List (Addr × Obj)} {vs : List Value} {rs : List Row} (k : ∀ p ∈ R, p ∈ R') (b : RowsAre R vs rs) : RowsAre R' vs rs := ⟨b.1, fun v hv => by
  obtain ⟨r, h1, T, t1, t2, t3, e, m⟩ := b.2 v hv
  exact ⟨r, h1, T, t1, t2, t3, e, k _ m⟩⟩
theorem RowsAre.rows {g : Heap} {L : Addr} {R : List (Addr × Obj)} {xs : List Row} {vs : List Value} {rs : List Row} (b : RowsAre R vs rs) (k : ∀ r ∈ rs, r ∈ xs) : ∀ v ∈ vs, ∃ r ∈ xs, RowIs g L R v r := fun v hv => by
  obtain ⟨r, h1, T, t1, t2, t3, e, m⟩ := b.2 v hv
  exact ⟨r, k r h1, T, t1, t2, t3, e, fun h N => tup_new N m⟩
section
variable {prog : Program} {w : World}
noncomputable def IntLit (prog : Program) (w : World) (e : Expr) (n : Int) : Prop :=
  (∀ {A : Around} {E : Value → Shared → Prop} {env : Env} {g d o} {h : Heap} {tk : Nat} {Q : Value → Shared → Prop}, (∀ t tk', Q (.int n t) ⟨h, g, d, tk', o⟩) → wpAny (model prog w) A (eval e env) Q E ⟨h, g, d, tk, o⟩) ∧ ∀ env rest, starEach (e :: rest) env = (false, eval e env) :: starEach rest env
theorem int_pos {i : Int} {c p} : IntLit prog w (.Constant (.int i) c p) i := ⟨fun hq => wpAny_Constant_int (hq _ _), fun _ _ => rfl⟩
theorem int_neg {i : Int} {c p q} : IntLit prog w (.UnaryOp .USub (.Constant (.int i) c p) q) (-i) := ⟨fun hq => wpAny_UnaryOp (wpAny_Constant_int (PyProof.Rows.neg_int (hq _ _))), fun _ _ => rfl⟩
noncomputable def TabArgs (prog : Program) (w : World) (es : List Expr) (rs : List Row) : Prop :=
  ∀ {A : Around} {E : Value → Shared → Prop} {env : Env} {g d o} {h₀ : Heap} {L : Addr} {m : Str → Option Value} {pos : Pos} {h : Heap} {tk : Nat} {news : List (Addr × Obj)} {Q : List Value → Shared → Prop}, Fr h₀ L h m → News h₀ L h news →
    (∀ vs R h' tk', Fr h₀ L h' m → News h₀ L h' (R ++ news) → (∀ p ∈ news, ∀ q ∈ R, @LT.lt Nat _ p.1 q.1) → RowsAre R vs rs → Q vs ⟨h', g, d, tk', o⟩) →
    wpAny (model prog w) A (spliced (backTo pos (starEach es env))) Q E ⟨h, g, d, tk, o⟩
theorem tab_nil : TabArgs prog w [] [] := fun F N hq => args_nil (hq [] [] _ _ F N (fun _ _ _ hq => nomatch hq) ⟨rfl, fun _ h => nomatch h⟩)
theorem tab_cons {a b : Expr} {n q : Int} {y : Str} {c1 p1 k pos1} {es : List Expr} {rs : List Row} (ha : IntLit prog w a n) (hb : IntLit prog w b q) (hr : TabArgs prog w es rs) : TabArgs prog w (.Tuple [a, b, .Constant (.str y) c1 p1] k pos1 :: es) (((n, q), y) :: rs) := by
  intro A E env g d o h₀ L m pos h tk news Q F N hq
  refine args_cons (Tuple_ (args_cons (ha.1 fun t1 k1 => args_cons (hb.1 fun t2 k2 => args_cons (Constant_str ?_) rfl) (hb.2 _ _)) (ha.2 _ _))) rfl
  refine args_nil (kup_newTuple F N (fun D h' F' N' lt => ?_) (Nat.le_of_ble_eq_true rfl))
  refine hr F' N' fun vs R h'' tk' F'' N'' lt' rr => ?_
  refine hq _ (R ++ [(D, tupObj [.int n t1, .int q t2, .str y _])]) h'' tk' F'' (by rw [List.append_assoc]; exact N'') ?_ ?_
  · intro p hp x hx
    rcases List.mem_append.mp hx with z | z
    · exact lt' p (.tail _ hp) x z
    · rw [List.mem_singleton.mp z]; exact lt p hp
  · exact .cons (r := ((n, q), y)) (List.mem_append_right _ (.head _)) (rr.mono fun p hp => List.mem_append_left _ hp)
theorem tab_args {es : List Expr} {rs : List Row} {A : Around} {E : Value → Shared → Prop} {env : Env} {g d o} {h₀ : Heap} {L : Addr} {m : Str → Option Value} {pos : Pos} {h : Heap} {tk : Nat} {news : List (Addr × Obj)} {Q : List Value → Shared → Prop} (F : Fr h₀ L h m) (N : News h₀ L h news) (he : TabArgs prog w es rs)
    (hq : ∀ vs R h' tk', Fr h₀ L h' m → News h₀ L h' (R ++ news) → (∀ p ∈ news, ∀ q ∈ R, @LT.lt Nat _ p.1 q.1) → RowsAre R vs rs → Q vs ⟨h', g, d, tk', o⟩) :
    wpAny (model prog w) A (spliced (backTo pos (starEach es env))) Q E ⟨h, g, d, tk, o⟩ := he F N hq
end
theorem shCutD {g h : Heap} {L sp L0 : Addr} {oB o0 : Obj} {s : Shared} {K : (Str → Option Value) → List (Addr × Obj) → Prop} {tk n : Nat} {m : Str → Option Value} {vs : List Value} {ns : List Int} {news : List (Addr × Obj)}
    (F : Fr g L h m) (N : News g L h news) (hS : news = news.dropLast.dropLast ++ [(sp, listOf vs.toArray n), (L0, o0)]) (hnf : NotFields o0) (hso : SlotOf oB o0) (ms : m "spool" = some (.ref sp)) (hv : IntsAre vs ns) (hb : ∀ i ∈ ns, (0 : Int) ≤ i ∧ i < 163) (hs : vs.length ≤ 1000)
    (r1 : ∀ p ∈ news.dropLast.dropLast, @Ne Nat p.1 sp) (r2 : ∀ p ∈ news.dropLast.dropLast, @Ne Nat p.1 L0) (hk : K m news.dropLast.dropLast) : ShCut g L sp L0 oB s K { s with heap := h, toks := tk } := by
  generalize news.dropLast.dropLast = R at *
  subst hS
  exact shCut F N (List.mem_append_right _ (.head _)) (List.mem_append_right _ (.tail _ (.head _))) (fun p hp => List.mem_append_left _ hp) hnf hso ms hv hb hs r1 r2 hk
noncomputable def ShItems (g : Heap) (L : Addr) (R : List (Addr × Obj)) (it wd : Addr) (its ws : List Value) (xs : List Row) : Prop :=
  NewsAll g L R (fun h => h.IsList it its.toArray ∧ h.IsList wd ws.toArray ∧ TupsAt h its (xs.map (·.1))) ∧ StrsAre ws (xs.map (·.2)) ∧ (∀ x ∈ xs, x ∈ shX) ∧ xs.length ≤ 4
noncomputable def ShK2 (g : Heap) (L : Addr) (m : Str → Option Value) (R : List (Addr × Obj)) : Prop := ∃ it wd its ws xs n1, m "items" = some (.ref it) ∧ m "words" = some (.ref wd) ∧ (it, listOf (List.toArray its) n1) ∈ R ∧ ShItems g L R it wd its ws xs
noncomputable def ShK4 (w : World) (g : Heap) (L : Addr) (m : Str → Option Value) (R : List (Addr × Obj)) : Prop := ∃ pt wd ps ws, ∃ xs : List Row, m "parts" = some (.ref pt) ∧ m "words" = some (.ref wd) ∧
  NewsAll g L R (fun h => h.IsList pt (List.toArray ps) ∧ h.IsList wd (List.toArray ws) ∧ LItemsAt w h ps (xs.map (·.2))) ∧ StrsAre ws (xs.map (·.2)) ∧ (∀ x ∈ xs, x ∈ shX) ∧ xs.length ≤ 4
theorem tups_snoc {h : Heap} {T : Addr} {n d : Int} {t t' : Tok} {vs : List Value} {xs : List (Int × Int)} (hi : TupsAt h vs xs) (hT : IsTup h T [Value.int n t, Value.int d t'].toArray) : TupsAt h (vs ++ [.ref T]) (xs ++ [(n, d)]) := by
  induction hi with
  | nil => exact .cons hT .nil
  | cons a _ ih => exact .cons a ih
noncomputable def ShJ (g : Heap) (L sp L0 it wd tb : Addr) (oB : Obj) (R : List (Addr × Obj)) (i : Nat) (m : Str → Option Value) (nx : List (Addr × Obj)) : Prop :=
  ∃ vs ns n o0 its n1 ws n2, ∃ xs : List Row, ∃ R', nx = (wd, listOf (List.toArray ws) n2) :: (it, listOf (List.toArray its) n1) :: (sp, listOf (List.toArray vs) n) :: (L0, o0) :: R' ∧
    m "spool" = some (.ref sp) ∧ m "table" = some (.ref tb) ∧ m "items" = some (.ref it) ∧ m "words" = some (.ref wd) ∧ NotFields o0 ∧ SlotOf oB o0 ∧ IntsAre vs ns ∧ (∀ i ∈ ns, (0 : Int) ≤ i ∧ i < 163) ∧ vs.length ≤ 1000 ∧
    (∀ p ∈ R', p.1 ≠ sp) ∧ (∀ p ∈ R', p.1 ≠ L0) ∧ (∀ p ∈ R', p.1 ≠ it) ∧ (∀ p ∈ R', p.1 ≠ wd) ∧ (∀ p ∈ R, p ∈ R') ∧ NewsAll g L R' (fun h => TupsAt h its (xs.map (·.1))) ∧ StrsAre ws (xs.map (·.2)) ∧ (∀ x ∈ xs, x ∈ shX) ∧ xs.length = i
theorem news_rot {h₀ h : Heap} {L : Addr} {a : Addr × Obj} {nx : List (Addr × Obj)} (N : News h₀ L h (nx ++ [a])) : News h₀ L h (a :: nx) := fun p hp => by
  rcases List.mem_cons.mp hp with z | z
  · rw [z]; exact N _ (List.mem_append_right _ (.head _))
  · exact N p (List.mem_append_left _ z)
theorem allLt_ne {d : Addr} : ∀ {l : List (Addr × Obj)}, AllLt d l → ∀ p ∈ l, p.1 ≠ d
  | [], _, _, h => nomatch h
  | _ :: _, x, p, h => by
    rcases List.mem_cons.mp h with z | z
    · rw [z]; exact Nat.ne_of_lt x.1
    · exact allLt_ne x.2 p z
theorem sh_next {g h' : Heap} {L sp L0 it wd tb I D : Addr} {oB oI o1 : Obj} {R R' : List (Addr × Obj)} {i tk n n1 n2 : Nat} {m' : Str → Option Value} {vs its ws : List Value} {ns : List Int} {xs : List Row} {n0 d0 : Int} {y : Str} {t1 t2 t3 : Tok} {s₁ : Shared} {Q : Flow → Shared → Prop}
    (F : Fr g L h' m') (N : News g L h' ((D, tupObj [.int n0 t1, .int d0 t2]) :: (I, oI) :: (wd, listOf ((List.toArray ws).push (.str y t3)) n2) :: (it, listOf ((List.toArray its).push (.ref D)) n1) :: (sp, listOf (List.toArray vs) n) :: (L0, o1) :: R'))
    (m1 : m' "spool" = some (.ref sp)) (m2 : m' "table" = some (.ref tb)) (m3 : m' "items" = some (.ref it)) (m4 : m' "words" = some (.ref wd)) (hnf : NotFields o1) (hso : SlotOf oB o1) (hv : IntsAre vs ns) (hb : ∀ i ∈ ns, (0 : Int) ≤ i ∧ i < 163) (hs : vs.length ≤ 1000)
    (r1 : ∀ p ∈ R', p.1 ≠ sp) (r2 : ∀ p ∈ R', p.1 ≠ L0) (r3 : ∀ p ∈ R', p.1 ≠ it) (r4 : ∀ p ∈ R', p.1 ≠ wd) (hRR : ∀ p ∈ R, p ∈ R') (hTu : NewsAll g L R' (fun h => TupsAt h its (xs.map (·.1)))) (hws : StrsAre ws (xs.map (·.2))) (hxs : ∀ x ∈ xs, x ∈ shX) (hxl : xs.length = i) (hr : ((n0, d0), y) ∈ shX)
    (i1 : @Ne Nat wd I) (i2 : @Ne Nat it I) (i3 : @Ne Nat sp I) (i4 : @Ne Nat L0 I) (i5 : ∀ p ∈ R', p.1 ≠ I) (j0 : @Ne Nat D I) (j1 : @Ne Nat D sp) (j2 : @Ne Nat D L0) (j3 : @Ne Nat D it) (j4 : @Ne Nat D wd) :
    FvPost g L (ShJ g L sp L0 it wd tb oB R (i + 1)) (I, oI) s₁ Q .next { s₁ with heap := h', toks := tk } := by
  rw [List.push_toArray, List.push_toArray] at N
  have c : ∀ {r : Addr}, @Ne Nat D r → (∀ p ∈ R', p.1 ≠ r) → ∀ p ∈ (D, tupObj [.int n0 t1, .int d0 t2]) :: R', p.1 ≠ r := fun a b p hp => by
    rcases List.mem_cons.mp hp with z | z
    · rw [z]; exact a
    · exact b p z
  refine fv_next ((wd, listOf (List.toArray (ws ++ [.str y t3])) n2) :: (it, listOf (List.toArray (its ++ [.ref D])) n1) :: (sp, listOf (List.toArray vs) n) :: (L0, o1) :: (D, tupObj [.int n0 t1, .int d0 t2]) :: R') F N ?_ (.tail _ (.head _)) ?_ ⟨vs, ns, n, o1, its ++ [.ref D], n1, ws ++ [.str y t3], n2, xs ++ [((n0, d0), y)], (D, tupObj [.int n0 t1, .int d0 t2]) :: R', rfl, m1, m2, m3, m4, hnf, hso, hv, hb, hs, c j1 r1, c j2 r2, c j3 r3, c j4 r4, fun p hp => .tail _ (hRR p hp), fun h N' => ?_, ?_, ?_, ?_⟩
  · intro p hp
    rcases List.mem_cons.mp hp with z | hp
    · rw [z]; exact .tail _ (.tail _ (.head _))
    · rcases List.mem_cons.mp hp with z | hp
      · rw [z]; exact .tail _ (.tail _ (.tail _ (.head _)))
      · rcases List.mem_cons.mp hp with z | hp
        · rw [z]; exact .tail _ (.tail _ (.tail _ (.tail _ (.head _))))
        · rcases List.mem_cons.mp hp with z | hp
          · rw [z]; exact .tail _ (.tail _ (.tail _ (.tail _ (.tail _ (.head _)))))
          · rcases List.mem_cons.mp hp with z | hp
            · rw [z]; exact .head _
            · exact .tail _ (.tail _ (.tail _ (.tail _ (.tail _ (.tail _ hp)))))
  · intro p hp
    rcases List.mem_cons.mp hp with z | hp
    · rw [z]; exact i1
    · rcases List.mem_cons.mp hp with z | hp
      · rw [z]; exact i2
      · rcases List.mem_cons.mp hp with z | hp
        · rw [z]; exact i3
        · rcases List.mem_cons.mp hp with z | hp
          · rw [z]; exact i4
          · exact c j0 i5 p hp
  · rw [List.map_append]
    exact tups_snoc (hTu h fun p hp => N' p (.tail _ hp)) (tup_new N' (.head _))
  · rw [List.map_append]
    exact strsAre_snoc hws
  · intro x hx
    rcases List.mem_append.mp hx with z | z
    · exact hxs x z
    · rw [List.mem_singleton.mp z]; exact hr
  · rw [List.length_append, hxl]; rfl
theorem ne_same {prog : Program} {w : World} {A : Around} {E : Value → Shared → Prop} {s : Shared} {a b : Addr} {xs ys : List Value} {ns : List Str} {Q : Value → Shared → Prop}
    (ha : s.heap.IsList a xs.toArray) (hb : s.heap.IsList b ys.toArray) (hi : StrsAre xs ns) (hj : StrsAre ys ns) (h1 : ∀ y ∈ ns, PyData.strOk y = true) (hu : A.units + 64 < cLine) (h : Q (.bool false) s) :
    wpAny (model prog w) A (compareOp .NotEq (.ref a) (.ref b)) Q E s := ne_strs ha hb hi hj h1 h1 hu (by simpa using h)
theorem strs_app {vs us : List Value} {ys zs : List Str} (a : StrsAre vs ys) (b : StrsAre us zs) : StrsAre (vs ++ us) (ys ++ zs) := by
  induction a with
  | nil => exact b
  | cons y t _ ih => exact .cons y t ih
theorem add_l {prog : Program} {w : World} {A : Around} {E : Value → Shared → Prop} {s : Shared} {h₀ : Heap} {L a b : Addr} {m : Str → Option Value} {news : List (Addr × Obj)} {xs ys : List Value} {Q : Value → Shared → Prop}
    (F : Fr h₀ L s.heap m) (N : News h₀ L s.heap news) (ha : s.heap.IsList a xs.toArray) (hb : s.heap.IsList b ys.toArray) (hx : xs.length ≤ 1000) (hy : ys.length ≤ 1000)
    (h : ∀ D h', Fr h₀ L h' m → News h₀ L h' ((D, listOf (List.toArray (xs ++ ys)) 0) :: news) → (∀ p ∈ news, p.1 < D) → Q (.ref D) { s with heap := h' }) : wpAny (model prog w) A (binaryOp .Add (.ref a) (.ref b)) Q E s := by
  have e16 : sizeLine = 16777216 := sizeLine_eq
  exact kmk_add_lit F N ha hb rfl h (by show xs.length + ys.length ≤ _; omega)
theorem items_of {h : Heap} {it wd : Addr} {its ws : List Value} {xs : List Row} (hA : h.IsList it its.toArray ∧ h.IsList wd ws.toArray ∧ TupsAt h its (xs.map (·.1))) (hx : ∀ x ∈ xs, x ∈ shX) : ItemsAt h (Str.ofString "double") (its ++ [.none]) (xs.map (·.2) ++ [Str.ofString "NA"]) := by
  have key : ∀ (xs : List Row) (its : List Value), TupsAt h its (xs.map (·.1)) → (∀ x ∈ xs, x ∈ shX) → ItemsAt h (Str.ofString "double") (its ++ [.none]) (xs.map (·.2) ++ [Str.ofString "NA"]) := by
    intro xs
    induction xs with
    | nil =>
      intro its hT _
      cases hT
      exact .cons (.dbl (x := none) .none trivial fun _ h => (nomatch h)) .nil
    | cons x xs ih =>
      intro its hT hx
      obtain ⟨x1, x2, x3, _⟩ := shX_ok x (hx x (.head _))
      obtain ⟨⟨n, d⟩, y⟩ := x
      cases hT with
      | cons a r =>
        have := ItemAt.dbl (NumAt.some a) x2 x3
        rw [x1] at this
        exact .cons this (ih _ r fun z hz => hx z (.tail _ hz))
  exact key xs its hA.2.2 hx
theorem items_len {h : Heap} {it wd : Addr} {its ws : List Value} {xs : List Row} (hA : h.IsList it its.toArray ∧ h.IsList wd ws.toArray ∧ TupsAt h its (xs.map (·.1))) : its.length = xs.length := by rw [hA.2.2.length, List.length_map]
theorem sub_two {a b c d : Addr × Obj} {R : List (Addr × Obj)} : ∀ p ∈ a :: R, p ∈ a :: b :: c :: d :: R := fun p hp => by
  rcases List.mem_cons.mp hp with z | z
  · rw [z]; exact .head _
  · exact .tail _ (.tail _ (.tail _ (.tail _ z)))
theorem part_item {g h₁ : Heap} {L it wd : Addr} {R : List (Addr × Obj)} {it0 sp0 l0 : Addr × Obj} {its ws : List Value} {xs : List Row} (hA : NewsAll g L R (fun h => h.IsList it its.toArray ∧ h.IsList wd ws.toArray ∧ TupsAt h its (xs.map (·.1)))) (N : News g L h₁ (it0 :: sp0 :: l0 :: R)) (hx : ∀ x ∈ xs, x ∈ shX) {i : Nat} {v : Value} (hv : its[i]? = some v) :
    ∃ y, (xs.map (·.2))[i]? = some y ∧ NewsAll g L R (fun h => ItemAt h (Str.ofString "double") v y) := by
  have hlen := items_len (NewsAll.at hA N (sub_tail (sub_tail (sub_tail sub_self))))
  have hi : i < xs.length := by rw [← hlen]; exact (List.getElem?_eq_some_iff.mp hv).1
  have hxi : xs[i]? = some xs[i] := List.getElem?_eq_getElem hi
  refine ⟨xs[i].2, by rw [List.getElem?_map, hxi]; rfl, fun h N' => ?_⟩
  obtain ⟨x1, x2, x3, _⟩ := shX_ok _ (hx _ (List.getElem_mem hi))
  obtain ⟨a, n, d, t, t', e1, e2, e3⟩ := (hA h N').2.2.get hv
  rw [List.getElem?_map, hxi] at e1
  have e4 : xs[i].1 = (n, d) := Option.some.inj e1
  rw [e4] at x1 x2 x3
  subst e2
  have := ItemAt.dbl (NumAt.some e3) x2 x3
  rw [x1] at this
  exact this
noncomputable def PartInv (w : World) (g : Heap) (L it sp L0 : Addr) (oit osp o1 : Obj) (R : List (Addr × Obj)) (zs : List Str) (i : Nat) (ys : List Value) (nw : List (Addr × Obj)) : Prop :=
  ∃ R', nw = (it, oit) :: (sp, osp) :: (L0, o1) :: R' ∧ (∀ p ∈ R, p ∈ R') ∧ (∀ p ∈ R', p.1 ≠ sp) ∧ (∀ p ∈ R', p.1 ≠ L0) ∧ NewsAll g L R' (fun h => LItemsAt w h ys (zs.take i))
theorem litems_snoc {w : World} {h : Heap} {vs : List Value} {ys : List Str} {v : Value} {y : Str} (a : LItemsAt w h vs ys) (b : LItemAt w h v (some y)) : LItemsAt w h (vs ++ [v]) (ys ++ [y]) := by
  induction a with
  | nil => exact .cons b .nil
  | cons x _ ih => exact .cons x ih
theorem part_end {w : World} {g h' : Heap} {L it sp L0 x dx l I C D : Addr} {oit osp o1 oI oC : Obj} {R R' : List (Addr × Obj)} {zs : List Str} {i tk k : Nat} {ys its : List Value} {v : Value} {y : Str} {kt t1 t2 t3 t4 t5 : Tok} {m : Str → Option Value} {s : Shared}
    (F : Fr g L h' m) (N : News g L h' ((x, instObj 230 dx) :: (dx, vecDict w (Str.ofString "double") kt l t1 t2 t3 t4 t5) :: (l, listOf (List.toArray [v]) k) :: (I, oI) :: (C, oC) :: (D, LCg.lst ys) :: (it, oit) :: (sp, osp) :: (L0, o1) :: R'))
    (off : LCg.Off3 I C D ((it, oit) :: (sp, osp) :: (L0, o1) :: R')) (hS : LCg.SrcAt g it its.toArray ((it, oit) :: [])) (hRR : ∀ p ∈ R, p ∈ R') (r1 : ∀ p ∈ R', p.1 ≠ sp) (r2 : ∀ p ∈ R', p.1 ≠ L0) (hL : NewsAll g L R' (fun h => LItemsAt w h ys (zs.take i))) (hy : zs[i]? = some y) (hit : NewsAll g L R (fun h => ItemAt h (Str.ofString "double") v y))
    (a1 : (@Ne Nat x I) ∧ (@Ne Nat x C) ∧ (@Ne Nat x D)) (a2 : (@Ne Nat dx I) ∧ (@Ne Nat dx C) ∧ (@Ne Nat dx D)) (a3 : (@Ne Nat l I) ∧ (@Ne Nat l C) ∧ (@Ne Nat l D)) (b1 : (@Ne Nat x sp) ∧ (@Ne Nat dx sp) ∧ (@Ne Nat l sp)) (b2 : (@Ne Nat x L0) ∧ (@Ne Nat dx L0) ∧ (@Ne Nat l L0)) :
    CompG g L m s I C D oI oC ys (LCg.SrcAt g it its.toArray) (fun y' nw' => PartInv w g L it sp L0 oit osp o1 R zs (i + 1) (ys ++ [y']) nw') (.ref x) { s with heap := h', toks := tk } := by
  refine compG ((it, oit) :: (sp, osp) :: (L0, o1) :: (x, instObj 230 dx) :: (dx, vecDict w (Str.ofString "double") kt l t1 t2 t3 t4 t5) :: (l, listOf (List.toArray [v]) k) :: R') F N ?_ ?_ ?_ ⟨_, rfl, fun p hp => .tail _ (.tail _ (.tail _ (hRR p hp))), all_cons b1.1 (all_cons b1.2.1 (all_cons b1.2.2 r1)), all_cons b2.1 (all_cons b2.2.1 (all_cons b2.2.2 r2)), fun h N' => ?_⟩
  · intro p hp
    simp only [List.mem_cons] at hp ⊢
    rcases hp with q | q | q | q | q | q | q | q | q | q
    all_goals simp only [q, true_or, or_true]
  · exact ⟨off.1, off.2.1, off.2.2.1, a1, a2, a3, off.2.2.2⟩
  · rcases hS with hS | ⟨o, hm, hr⟩
    · exact .inl hS
    · exact .inr ⟨o, by rw [List.mem_singleton.mp hm]; exact .head _, hr⟩
  · rw [take_snoc hy]
    exact litems_snoc (hL h fun p hp => N' p (.tail _ (.tail _ (.tail _ hp)))) (.vec (vec_in N' (.head _) (.tail _ (.head _))) (News.isList N' (.tail _ (.tail _ (.head _)))) (hit h fun p hp => N' p (.tail _ (.tail _ (.tail _ (hRR p hp))))) (by decide +kernel) (by decide +kernel) (by decide +kernel))
theorem litems_app {w : World} {h : Heap} {vs us : List Value} {ys zs : List Str} (a : LItemsAt w h vs ys) (b : LItemsAt w h us zs) : LItemsAt w h (vs ++ us) (ys ++ zs) := by
  induction a with
  | nil => exact b
  | cons x _ ih => exact .cons x ih
theorem parts_of {w : World} {h : Heap} {pt wd : Addr} {ps ws : List Value} {ys : List Str} (hA : h.IsList pt ps.toArray ∧ h.IsList wd ws.toArray ∧ LItemsAt w h ps ys) : LItemsAt w h ps ys := hA.2.2
theorem parts_len {w : World} {h : Heap} {pt wd : Addr} {ps ws : List Value} {ys : List Str} (hA : h.IsList pt ps.toArray ∧ h.IsList wd ws.toArray ∧ LItemsAt w h ps ys) : ps.length = ys.length := hA.2.2.length
theorem rows_ok {xs : List Row} (hx : ∀ x ∈ xs, x ∈ shX) {l : List Str} (hl : ∀ y ∈ l, PyData.strOk y = true) : ∀ y ∈ xs.map (·.2) ++ l, PyData.strOk y = true := fun y hy => by
  rcases List.mem_append.mp hy with z | z
  · obtain ⟨x, hxm, rfl⟩ := List.mem_map.mp z
    exact (shX_ok x (hx x hxm)).2.2.2
  · exact hl y z
theorem ShCut.cutT {prog : Program} {w : World} {A : Around} {env : Env} {tail : List Stmt} {Q : Flow → Shared → Prop} {E : Value → Shared → Prop} {g : Heap} {L sp L0 : Addr} {oB : Obj} {s : Shared}
    (k : ∀ h tk, ∀ m : Str → Option Value, ∀ vs ns n o0 R tb tvs, Fr g L h (fun z => if z = Str.ofString "spool" then some (.ref sp) else if z = Str.ofString "table" then some (.ref tb) else m z) → News g L h ((sp, listOf (List.toArray vs) n) :: (L0, o0) :: R) → NotFields o0 → SlotOf oB o0 → IntsAre vs ns → (∀ i ∈ ns, (0 : Int) ≤ i ∧ i < 163) → vs.length ≤ 1000 → (∀ p ∈ R, p.1 ≠ sp) → (∀ p ∈ R, p.1 ≠ L0) → NewsAll g L R (fun h => h.IsList tb (List.toArray tvs)) → tvs.length = 13 → (∀ v ∈ tvs, ∃ r ∈ shX, RowIs g L R v r) → wpAny (model prog w) A (execs tail env) Q E { s with heap := h, toks := tk }) :
    CutAt prog w A env tail Q E (ShCut g L sp L0 oB s fun m R => ∃ tb, m "table" = some (.ref tb) ∧ TabIn g L R tb) := by
  rintro s' ⟨h, tk, m, vs, ns, n, o1, R, rfl, F, N, a1, a2, ms, hv, hb, hs, r1, r2, tb, mt, tvs, h1, h2, h3⟩
  exact k h tk m vs ns n o1 R tb tvs (kst2 (m := m) ⟨ms, mt⟩ F) N a1 a2 hv hb hs r1 r2 h1 h2 h3
theorem ShCut.cut2 {prog : Program} {w : World} {A : Around} {env : Env} {tail : List Stmt} {Q : Flow → Shared → Prop} {E : Value → Shared → Prop} {g : Heap} {L sp L0 : Addr} {oB : Obj} {s : Shared}
    (k : ∀ h tk, ∀ m : Str → Option Value, ∀ vs ns n o0 R it wd its ws, ∀ xs : List Row, ∀ n1, Fr g L h (fun z => if z = Str.ofString "spool" then some (.ref sp) else if z = Str.ofString "items" then some (.ref it) else if z = Str.ofString "words" then some (.ref wd) else m z) → News g L h ((sp, listOf (List.toArray vs) n) :: (L0, o0) :: R) → NotFields o0 → SlotOf oB o0 → IntsAre vs ns → (∀ i ∈ ns, (0 : Int) ≤ i ∧ i < 163) → vs.length ≤ 1000 → (∀ p ∈ R, p.1 ≠ sp) → (∀ p ∈ R, p.1 ≠ L0) → (it, listOf (List.toArray its) n1) ∈ R → NewsAll g L R (fun h => h.IsList it its.toArray ∧ h.IsList wd ws.toArray ∧ TupsAt h its (xs.map (·.1))) → StrsAre ws (xs.map (·.2)) → (∀ x ∈ xs, x ∈ shX) → xs.length ≤ 4 → wpAny (model prog w) A (execs tail env) Q E { s with heap := h, toks := tk }) :
    CutAt prog w A env tail Q E (ShCut g L sp L0 oB s (ShK2 g L)) := by
  rintro s' ⟨h, tk, m, vs, ns, n, o1, R, rfl, F, N, a1, a2, ms, hv, hb, hs, r1, r2, it, wd, its, ws, xs, n1, mi, mw, him, hA, hws, hxs, hxl⟩
  exact k h tk m vs ns n o1 R it wd its ws xs n1 (kst3 (m := m) ⟨ms, mi, mw⟩ F) N a1 a2 hv hb hs r1 r2 him hA hws hxs hxl
theorem ShCut.cut4 {prog : Program} {w : World} {A : Around} {env : Env} {tail : List Stmt} {Q : Flow → Shared → Prop} {E : Value → Shared → Prop} {g : Heap} {L sp L0 : Addr} {oB : Obj} {s : Shared}
    (k : ∀ h tk, ∀ m : Str → Option Value, ∀ vs ns n o0 R pt wd ps ws, ∀ xs : List Row, Fr g L h (fun z => if z = Str.ofString "spool" then some (.ref sp) else if z = Str.ofString "parts" then some (.ref pt) else if z = Str.ofString "words" then some (.ref wd) else m z) → News g L h ((sp, listOf (List.toArray vs) n) :: (L0, o0) :: R) → NotFields o0 → SlotOf oB o0 → IntsAre vs ns → (∀ i ∈ ns, (0 : Int) ≤ i ∧ i < 163) → vs.length ≤ 1000 → (∀ p ∈ R, p.1 ≠ sp) → (∀ p ∈ R, p.1 ≠ L0) → NewsAll g L R (fun h => h.IsList pt (List.toArray ps) ∧ h.IsList wd (List.toArray ws) ∧ LItemsAt w h ps (xs.map (·.2))) → StrsAre ws (xs.map (·.2)) → (∀ x ∈ xs, x ∈ shX) → xs.length ≤ 4 → wpAny (model prog w) A (execs tail env) Q E { s with heap := h, toks := tk }) :
    CutAt prog w A env tail Q E (ShCut g L sp L0 oB s (ShK4 w g L)) := by
  rintro s' ⟨h, tk, m, vs, ns, n, o1, R, rfl, F, N, a1, a2, ms, hv, hb, hs, r1, r2, pt, wd, ps, ws, xs, mi, mw, hA, hws, hxs, hxl⟩
  exact k h tk m vs ns n o1 R pt wd ps ws xs (kst3 (m := m) ⟨ms, mi, mw⟩ F) N a1 a2 hv hb hs r1 r2 hA hws hxs hxl
theorem ShJ.use {P : Prop} {g h : Heap} {L sp L0 it wd tb I : Addr} {oB oI : Obj} {R : List (Addr × Obj)} {i : Nat} {m : Str → Option Value} {nx : List (Addr × Obj)} {x0 : Str} {v0 : Option Value} (H : ShJ g L sp L0 it wd tb oB R i m nx) (hI : ∀ p ∈ nx, p.1 ≠ I) (F : Fr g L h (fun z => if z = x0 then v0 else m z)) (N : News g L h (nx ++ [(I, oI)]))
    (k : ∀ vs ns n o0 its n1 ws n2, ∀ xs : List Row, ∀ R', Fr g L h (fun z => if z = x0 then v0 else if z = Str.ofString "spool" then some (.ref sp) else if z = Str.ofString "table" then some (.ref tb) else if z = Str.ofString "items" then some (.ref it) else if z = Str.ofString "words" then some (.ref wd) else m z) → News g L h ((I, oI) :: (wd, listOf (List.toArray ws) n2) :: (it, listOf (List.toArray its) n1) :: (sp, listOf (List.toArray vs) n) :: (L0, o0) :: R') → (@Ne Nat wd I) → (@Ne Nat it I) → (@Ne Nat sp I) → (@Ne Nat L0 I) → (∀ p ∈ R', p.1 ≠ I) → its.length ≤ i → ws.length ≤ i → NotFields o0 → SlotOf oB o0 → IntsAre vs ns → (∀ i ∈ ns, (0 : Int) ≤ i ∧ i < 163) → vs.length ≤ 1000 → (∀ p ∈ R', p.1 ≠ sp) → (∀ p ∈ R', p.1 ≠ L0) → (∀ p ∈ R', p.1 ≠ it) → (∀ p ∈ R', p.1 ≠ wd) → (∀ p ∈ R, p ∈ R') → NewsAll g L R' (fun h => TupsAt h its (xs.map (·.1))) → StrsAre ws (xs.map (·.2)) → (∀ x ∈ xs, x ∈ shX) → xs.length = i → P) : P := by
  obtain ⟨vs, ns, n, o1, its, n1, ws, n2, xs, R', rfl, m1, m2, m3, m4, hnf9, hso9, hv, hb, hs, r1', r2', r3, r4, hRR, hTu, hws, hxs, hxl⟩ := H
  simp only [List.forall_mem_cons] at hI
  obtain ⟨i1, i2, i3, i4, i5⟩ := hI
  have N := news_rot N
  refine k vs ns n o1 its n1 ws n2 xs R' (kstu4 (m := m) ⟨m1, m2, m3, m4⟩ F) N i1 i2 i3 i4 i5 ?_ ?_ hnf9 hso9 hv hb hs r1' r2' r3 r4 hRR hTu hws hxs hxl
  · have := (hTu h fun p hp => N p (.tail _ (.tail _ (.tail _ (.tail _ (.tail _ hp)))))).length
    rw [this, List.length_map, hxl]; exact Nat.le_refl _
  · rw [strsAre_length hws, List.length_map, hxl]; exact Nat.le_refl _
theorem ShJ.fin {P : Prop} {g h : Heap} {L sp L0 it wd tb : Addr} {oB : Obj} {R : List (Addr × Obj)} {i : Nat} {m : Str → Option Value} {nx : List (Addr × Obj)} (H : ShJ g L sp L0 it wd tb oB R i m nx) (F : Fr g L h m) (N : News g L h nx)
    (k : ∀ vs ns n o0 its n1 ws n2, ∀ xs : List Row, ∀ R', Fr g L h (fun z => if z = Str.ofString "spool" then some (.ref sp) else if z = Str.ofString "table" then some (.ref tb) else if z = Str.ofString "items" then some (.ref it) else if z = Str.ofString "words" then some (.ref wd) else m z) → News g L h ((wd, listOf (List.toArray ws) n2) :: (it, listOf (List.toArray its) n1) :: (sp, listOf (List.toArray vs) n) :: (L0, o0) :: R') → NotFields o0 → SlotOf oB o0 → IntsAre vs ns → (∀ i ∈ ns, (0 : Int) ≤ i ∧ i < 163) → vs.length ≤ 1000 → (∀ p ∈ R', p.1 ≠ sp) → (∀ p ∈ R', p.1 ≠ L0) → (∀ p ∈ R', p.1 ≠ it) → (∀ p ∈ R', p.1 ≠ wd) → (∀ p ∈ R, p ∈ R') → NewsAll g L R' (fun h => TupsAt h its (xs.map (·.1))) → StrsAre ws (xs.map (·.2)) → (∀ x ∈ xs, x ∈ shX) → xs.length = i → P) : P := by
  obtain ⟨vs, ns, n, o1, its, n1, ws, n2, xs, R', rfl, m1, m2, m3, m4, hnf9, hso9, hv, hb, hs, r1', r2', r3, r4, hRR, hTu, hws, hxs, hxl⟩ := H
  exact k vs ns n o1 its n1 ws n2 xs R' (kst4 (m := m) ⟨m1, m2, m3, m4⟩ F) N hnf9 hso9 hv hb hs r1' r2' r3 r4 hRR hTu hws hxs hxl
theorem PartInv.use {P : Prop} {w : World} {g h : Heap} {L' : Addr} {a b c : Addr × Obj} {I C D : Addr} {L it sp L0 : Addr} {oit osp o1 : Obj} {R : List (Addr × Obj)} {zs : List Str} {i : Nat} {ys : List Value} {nw : List (Addr × Obj)} (H : PartInv w g L it sp L0 oit osp o1 R zs i ys nw) (N : News g L' h (a :: b :: c :: nw)) (off : LCg.Off3 I C D nw)
    (k : ∀ R', (∀ p ∈ R, p ∈ R') → (∀ p ∈ R', p.1 ≠ sp) → (∀ p ∈ R', p.1 ≠ L0) → NewsAll g L R' (fun h => LItemsAt w h ys (zs.take i)) → News g L' h (a :: b :: c :: (it, oit) :: (sp, osp) :: (L0, o1) :: R') → LCg.Off3 I C D ((it, oit) :: (sp, osp) :: (L0, o1) :: R') → P) : P := by
  obtain ⟨R', rfl, h1, h2, h3, h4⟩ := H
  exact k R' h1 h2 h3 h4 N off
theorem PartInv.fin {P : List (Addr × Obj) → Prop} {w : World} {g : Heap} {L it sp L0 : Addr} {oit osp o1 : Obj} {R : List (Addr × Obj)} {zs : List Str} {i : Nat} {ys : List Value} {nw : List (Addr × Obj)} (H : PartInv w g L it sp L0 oit osp o1 R zs i ys nw)
    (k : ∀ R', (∀ p ∈ R, p ∈ R') → (∀ p ∈ R', p.1 ≠ sp) → (∀ p ∈ R', p.1 ≠ L0) → NewsAll g L R' (fun h => LItemsAt w h ys (zs.take i)) → P ((it, oit) :: (sp, osp) :: (L0, o1) :: R')) : P nw := by
  obtain ⟨R', rfl, a, b, c, d⟩ := H
  exact k R' a b c d
example : True := by
 (k_with "top_caught" => ((fail_if_success (fail_if_success (have := @on_sh))); (first
     | (refine' CatIs.null (null_in ?a ?b ?c); (case a => k_asm); (case b => k_mem); (case c => k_mem))
     | (refine' CatIs.atom ?a ?b ?c ?d ?e ?f ?z; (case a => exact vec_in (by k_asm) (by k_mem) (by k_mem)); (case b => exact News.isList (by k_asm) (by k_mem)); (case c => first | exact .cons (.chr .none) (.cons (.chr .some) .nil) | exact items_of (NewsAll.at (by assumption) (by k_asm) (by k_extra "kat_tups")) (by assumption)); (case d => decide +kernel); (case e => decide +kernel); (case f => decide +kernel); (case z => first | exact Nat.le_of_ble_eq_true rfl | (rw [List.length_append, items_len (NewsAll.at (by assumption) (by k_asm) (by k_extra "kat_tups"))]; exact Nat.le_trans (Nat.add_le_add_right (by assumption) 1) (by decide))))
     | (refine' CatIs.list ?a ?b ?c ?z; (case a => exact vec_in (by k_asm) (by k_mem) (by k_mem)); (case b => exact News.isList (by k_asm) (by k_mem)); (case c => exact litems_app (parts_of (NewsAll.at (by assumption) (by k_asm) (by k_extra "kat_tups"))) (.cons (.sym (sym_in (by k_asm) (by k_mem) (by k_mem))) (.cons (.vec (vec_in (by k_asm) (by k_mem) (by k_mem)) (News.isList (by k_asm) (by k_mem)) (.chr .some) (by decide +kernel) (by decide +kernel) (by decide +kernel)) (.cons (.vec (vec_in (by k_asm) (by k_mem) (by k_mem)) (News.isList (by k_asm) (by k_mem)) .lgc (by decide +kernel) (by decide +kernel) (by decide +kernel)) .nil)))); (case z => (simp only [List.length_append, List.length_cons, List.length_nil]; omega))))))
 exact True.intro
example : True := by
 (k_with "call ref" => ((fail_if_success (fail_if_success (have := @on_sh))); ((k_here; (with_reducible refine (?_ : wpAny _ _ (call (Value.ref 338) (Value.str (Str.ofString "cat") _ :: _)) _ _ _)); k_dflt (refine' asked_catN_b ?kC ?kB ?kF ?kN ?kU ?kn ?kso ?kf ?kk ?kd ?ku ?kv ?kp ?_; (case kC => exact ⟨by k_asm, by k_asm⟩); (case kB => assumption); (case kF => k_asm); (case kN => k_asm); (case kU => k_updF); (case kn => assumption); (case kso => assumption); (case kf => rfl); (case kk => rfl); (case kd => k_extra "ktr_unf"); (case ku => k_extra "kwd_rel"); (case kv => (refine' CatIs.long ?a ?b ?c ?d ?z; (case a => exact vec_in (by k_asm) (by k_mem) (by k_mem)); (case b => exact News.isList (by k_asm) (by k_mem)); (case c => exact parts_of (NewsAll.at (by assumption) (by k_asm) (by k_extra "kat_tups"))); (case d => exact .long (vec_in (by k_asm) (by k_mem) (by k_mem)) (News.isList (by k_asm) (by k_mem)) (by decide +kernel) (by decide +kernel)); (case z => omega))); (case kp => omega); k_whole; intro tm9 h9 o9 tk9 F9 N9 hf9 ho9; (try dsimp only at N9); (try k_sweep); (try dsimp only); (try k_fold))))))
 exact True.intro
example : True := by
 (k_with "exec Assign cons ListComp" => ((fail_if_success (fail_if_success (have := @on_sh))); ((k_here; k_dflt (refine LCg.Assign_ListComp_U (F₀ := by k_asm) (by rfl) (by with_unfolding_all rfl) (by with_unfolding_all rfl) (by decide) (by rfl) (by decide) (by rfl) (by rfl) (by rfl) ?_)))))
 exact True.intro
example : True := by
 (k_with "call ref" => ((fail_if_success (fail_if_success (have := @on_sh))); ((k_here; (with_reducible refine (?_ : wpAny _ _ (call (Value.ref 338) (Value.str (Str.ofString "cat") _ :: _)) _ _ _)); k_dflt (refine' asked_catS_b ?kC ?kB ?kF ?kN ?kU ?kn ?kso ?kf ?kk ?kd ?ku ?kv ?kp ?_; (case kC => exact ⟨by k_asm, by k_asm⟩); (case kB => assumption); (case kF => k_asm); (case kN => k_asm); (case kU => k_updF); (case kn => assumption); (case kso => assumption); (case kf => rfl); (case kk => rfl); (case kd => k_extra "ktr_unf"); (case ku => k_extra "kwd_rel"); (case kv => k_extra "top_caught"); (case kp => decide); k_whole; intro r9 zs9 n9 h9 o9 tk9 F9 N9 ne9 hf9 ho9 e9; (try dsimp only at N9 ne9); (try simp only [AllNe, and_true] at ne9); (try k_sweep); (try dsimp only); (try k_fold))))))
 exact True.intro
example : True := by
 (k_with "binaryOp Add ref ref" => ((fail_if_success (fail_if_success (have := @on_sh))); ((k_here; (with_reducible refine (?_ : wpAny _ _ (binaryOp _ (Value.ref _) (Value.ref _)) _ _ _)); k_dflt (refine' add_l ?F ?N ?a ?b ?hx ?hy ?_; (case F => k_asm); (case N => k_asm); (case a => first | exact (NewsAll.at hA (by k_asm) (by k_extra "kat_tups")).1 | exact (NewsAll.at hA (by k_asm) (by k_extra "kat_tups")).2.1); (case b => exact News.isList (by k_asm) (by k_mem)); (case hx => omega); (case hy => exact Nat.le_of_ble_eq_true rfl); k_whole; intro D' h' F' N' l1; (try k_lt l1); (try k_sweep))))))
 exact True.intro
example : True := by
 (k_with "eval List" => ((fail_if_success (fail_if_success (have := @on_sh))); (k_here; (with_reducible refine (?_ : wpAny _ _ (eval (Expr.List (Expr.Tuple _ _ _ :: _) _) _) _ _ _)); k_dflt (with_reducible refine List_ ?_; with_reducible refine' tab_args (rs := shX) ?F ?N ?he ?_; (case F => k_asm); (case N => k_asm); (case he => (delta shX; repeat' (first | exact tab_nil | exact int_pos | exact int_neg | refine tab_cons ?_ ?_ ?_))); intro tvX RX hX1 tkX FX1 NX1 ltX rrX; (have lnX := rrX.len); (refine' newList_K FX1 NX1 ?_ ?z2; (case z2 => exact Nat.le_trans (Nat.le_of_eq lnX) (Nat.le_of_ble_eq_true rfl))); intro tbX hX2 FX2 NX2 l1X; (try k_sweep); (try dsimp only)))))
 exact True.intro
example : True := by
 (k_with "top_raise0" => ((fail_if_success (fail_if_success (have := @on_sh))); (first | assumption | exact .nil | exact .cons _ _ (.cons _ _ .nil) | exact strs_app (by assumption) (.cons _ _ .nil) | exact strs_app (by assumption) (.cons _ _ (.cons _ _ (.cons _ _ .nil))))))
 exact True.intro
example : True := by
 (k_with "top_raiseB0" => ((fail_if_success (fail_if_success (have := @on_sh))); (first | assumption | exact noStr | decide +kernel)))
 exact True.intro
example : True := by
 (k_with "compareOp NotEq ref ref" => ((fail_if_success (fail_if_success (have := @on_sh))); ((k_here; (with_reducible refine (?_ : wpAny _ _ (compareOp CmpOp.NotEq (Value.ref _) (Value.ref _)) _ _ _)); k_dflt (refine' ne_same ?ka ?kb ?kc ?kd ?ke ?kg ?_; (case ka => exact News.isList (by k_asm) (by k_mem)); (case kb => exact News.isList (by k_asm) (by k_mem)); (case kc => assumption); (case kd => k_extra "top_raise0"); (case ke => k_extra "top_raiseB0"); (case kg => k_extra "kwd_rel"); k_whole)))))
 exact True.intro
section
variable {prog : Program} {w : World} {p : Program} {loose : List Str} {mean : ExcName → Option Value} {mg mb : Str → Option Value} {dp un : Nat} {fs : Option (List Env)} {gd : Option (List Code)} {s : Shared} {Q E : Value → Shared → Prop} {eL : Env} {L0 : Addr} {o0 : Obj}
theorem shown_ok {sp : Addr} {vs : List Value} {ns : List Int} {n : Nat}
    (C : SiteN w p loose mean mg mb s.heap [sp, L0]) (B : Below1 fs eL L0) (hne : @Ne Nat sp L0) (hdd : dp + 20 < recursionLimit) (hu : un + 200 < cLine)
    (hsp : s.heap.get? sp = some (listOf vs.toArray n)) (h0 : s.heap.get? L0 = some o0) (hnf : NotFields o0) (hv0 : IntsAre vs ns) (hb0 : ∀ i ∈ ns, 0 ≤ i ∧ i < 163) (hs0 : vs.length ≤ 1000)
    (ret : RetP s sp L0 o0 Q) :
    wpAny (model prog w) (At dp un fs gd) (call (.ref 357) [.ref sp]) Q E s := by
  refine quietly ?_ ?_
  focus
    have C' : SiteN w p loose mean mg mb s.heap (([(sp, listOf vs.toArray n), (L0, o0)] : List (Addr × Obj)).map (·.1)) := C
    have hn : ∀ q ∈ [(sp, listOf vs.toArray n), (L0, o0)], s.heap.get? q.1 = some q.2 := fun q hq => by
      rcases List.mem_cons.mp hq with z | z
      · rw [z]; exact hsp
      · rw [List.mem_singleton.mp z]; exact h0
    clear C
    k_extra "kwd_inv"
    have hso0 := SlotOf.refl o0
    (with_reducible refine' cut1 ?P ?_ ?_)
    (case P => exact (ShCut g₁ L₁ sp L0 o0 s fun m R => ∃ tb, m "table" = some (.ref tb) ∧ TabIn g₁ L₁ R tb))
    · refine ShCut.cutT ?_
      intro h tk m vs ns n o1 R tb tvs F N hnf9 hso9 hv hb hs r1 r2 hT1 hT2 hT3
      clear hv0 hb0 hs0 F₁ N₁ hn C' hsp h0 hnf hso0
      (with_reducible refine' cut3 ?P ?_ ?_)
      (case P => exact (ShCut g₁ L₁ sp L0 o0 s (ShK2 g₁ L₁)))
      · refine ShCut.cut2 ?_
        intro h tk m vs ns n o1 R it wd its ws xs n1 F N hnf9 hso9 hv hb hs r1 r2 him hA hws hxs hxl
        have hwl : ws.length ≤ 4 := by rw [strsAre_length hws, List.length_map]; omega
        have hil : its.length ≤ 4 := by rw [items_len (NewsAll.at hA N (sub_tail (sub_tail sub_self)))]; omega
        (with_reducible refine' cut1 ?P ?_ ?_)
        (case P => exact (ShCut g₁ L₁ sp L0 o0 s (ShK2 g₁ L₁)))
        · refine ShCut.cut2 ?_
          intro h tk m vs ns n o1 R it wd its ws xs n1 F N hnf9 hso9 hv hb hs r1 r2 him hA hws hxs hxl
          have N0 : News g₁ L₁ h ((it, listOf (List.toArray its) n1) :: (sp, listOf (List.toArray vs) n) :: (L0, o1) :: R) := fun p hp => by
            rcases List.mem_cons.mp hp with z | z
            · rw [z]; exact N _ (.tail _ (.tail _ him))
            · exact N p z
          clear N
          have hi1 : @Ne Nat it sp := r1 _ him
          have hi2 : @Ne Nat it L0 := r2 _ him
          have hil : its.length = xs.length := items_len (NewsAll.at hA N0 (sub_tail (sub_tail (sub_tail sub_self))))
          (with_reducible refine' cut1 ?P ?_ ?_)
          (case P => exact (ShCut g₁ L₁ sp L0 o0 s (ShK4 w g₁ L₁)))
          · refine ShCut.cut4 ?_
            intro h tk m vs ns n o1 R pt wd ps ws xs F N hnf9 hso9 hv hb hs r1 r2 hA hws hxs hxl
            have hwl : ws.length ≤ 4 := by rw [strsAre_length hws, List.length_map]; omega
            have hpl : ps.length ≤ 4 := by rw [parts_len (NewsAll.at hA N (sub_tail (sub_tail sub_self))), List.length_map]; omega
            (with_reducible refine' cut1 ?P ?_ ?_)
            (case P => exact (ShCut g₁ L₁ sp L0 o0 s (ShK4 w g₁ L₁)))
            · refine ShCut.cut4 ?_
              intro h tk m vs ns n o1 R pt wd ps ws xs F N hnf9 hso9 hv hb hs r1 r2 hA hws hxs hxl
              have hpl : ps.length ≤ 4 := by rw [parts_len (NewsAll.at hA N (sub_tail (sub_tail sub_self))), List.length_map]; omega
              k_steps
              exact opt_end ret hg₁ (by k_asm) (by k_asm) (by k_mem) (by k_mem) (by assumption) (by assumption) (by assumption) (by assumption) (beq_self_eq_true _)
            · intro hC
              have hok1 := rows_ok hxs (l := [Str.ofString "nm", Str.ofString "q r", Str.ofString "FALSE"]) (by decide +kernel)
              k_steps
              unfold Held
              refine' shCut (R := R) ?kF ?kN ?km ?k0 ?kR ?kn ?kso ?ks ?kv ?kb ?kl r1 r2 ?kK
              (case kF => k_asm)
              (case kN => k_asm)
              (case km => k_mem)
              (case k0 => k_mem)
              (case kR => k_extra "kat_tups")
              (case kn => assumption)
              (case kso => assumption)
              (case ks => with_unfolding_all rfl)
              (case kv => assumption)
              (case kb => assumption)
              (case kl => assumption)
              (case kK => exact ⟨pt, wd, ps, ws, xs, by with_unfolding_all rfl, by with_unfolding_all rfl, hA, hws, hxs, hxl⟩)
          · intro hC
            k_steps
            k_dflt (refine LCg.CompSrc.ledger (by rfl) (by k_asm) (by k_asm) (.head _) (by rw [List.size_toArray, hil]; exact Nat.le_trans hxl (by decide)) ?_)
            intro gg
            rw [List.size_toArray]
            refine comp_indG its.length (PartInv w g₁ L₁ it sp L0 (listOf (List.toArray its) n1) (listOf (List.toArray vs) n) o1 R (xs.map (·.2))) ⟨R, rfl, fun _ h => h, r1, r2, fun h _ => .nil⟩ ?_ ?_
            · intro i ys nw v I oI C oC D m₂ h tk E' hin hPI hv9 hC9 hm F' N' off' ne'
              refine PartInv.use hPI N' off' ?_
              clear hPI N' off'
              intro R' hRR r1' r2' hL N' off'
              obtain ⟨y, hy, hit⟩ := part_item hA N0 hxs (v := v) (by simpa using hv9)
              have off0 := off'
              (try simp only [LCg.Off3, and_true] at off')
              k_steps
              exact part_end (by k_asm) (by k_asm) off0 (.inr ⟨_, .head _, rfl, _, rfl⟩) hRR r1' r2' hL hy hit ⟨by k_ne, by k_ne, by k_ne⟩ ⟨by k_ne, by k_ne, by k_ne⟩ ⟨by k_ne, by k_ne, by k_ne⟩ ⟨by k_ne, by k_ne, by k_ne⟩ ⟨by k_ne, by k_ne, by k_ne⟩
            · intro ys nw hPI
              refine PartInv.fin hPI ?_
              clear hPI
              intro R' hRR r1' r2' hL
              unfold LCg.FinA
              intro D h tk F9 N9 o9
              rw [hil, List.take_of_length_le (by rw [List.length_map]; exact Nat.le_refl _)] at hL
              (try simp only [LCg.Off1, and_true] at o9)
              k_steps
              unfold Held
              refine' shCut (R := (D, LCg.lst ys) :: R') ?kF ?kN ?km ?k0 ?kR ?kn ?kso ?ks ?kv ?kb ?kl ?r1 ?r2 ?kK
              (case kF => k_asm)
              (case kN => k_asm)
              (case km => k_mem)
              (case k0 => k_mem)
              (case kR => exact sub_two)
              (case kn => assumption)
              (case kso => assumption)
              (case ks => with_unfolding_all rfl)
              (case kv => assumption)
              (case kb => assumption)
              (case kl => assumption)
              (case r1 => exact all_cons (by k_ne) r1')
              (case r2 => exact all_cons (by k_ne) r2')
              (case kK => exact ⟨D, wd, ys, ws, xs, by with_unfolding_all rfl, by with_unfolding_all rfl, fun h N' => ⟨News.isList N' (.head _), (hA h fun p hp => N' p (.tail _ (hRR p hp))).2.1, hL h fun p hp => N' p (.tail _ hp)⟩, hws, hxs, hxl⟩)
        · intro hC
          have hok1 := rows_ok hxs (l := [Str.ofString "NA"]) (by decide +kernel)
          k_steps
          unfold Held
          refine' shCut (R := R) ?kF ?kN ?km ?k0 ?kR ?kn ?kso ?ks ?kv ?kb ?kl r1 r2 ?kK
          (case kF => k_asm)
          (case kN => k_asm)
          (case km => k_mem)
          (case k0 => k_mem)
          (case kR => k_extra "kat_tups")
          (case kn => assumption)
          (case kso => assumption)
          (case ks => with_unfolding_all rfl)
          (case kv => assumption)
          (case kb => assumption)
          (case kl => assumption)
          (case kK => exact ⟨it, wd, its, ws, xs, n1, by with_unfolding_all rfl, by with_unfolding_all rfl, him, hA, hws, hxs, hxl⟩)
      · intro hC
        k_steps
        unfold Held
        rename_i it x1 lt1 x2 wd x4 lt2 x5 h8 tk8 t1 u1 v1 hRg F8 N8 k8
        obtain ⟨l1a, l1b, l1c⟩ := lt1
        obtain ⟨l2a, l2b, l2c, l2d⟩ := lt2
        (with_reducible refine' rg_iterF (n := r9.toNat) (ShJ g₁ L₁ sp L0 it wd tb o0 R) ?k1 ?kR ?k2 ?k3 ?kF ?kN ?k4 ?_ ?_)
        (case kR => exact hRg)
        (case kF => exact F8)
        (case kN => exact N8)
        (case k1 => exact rfl)
        (case k2 => exact small_one (by omega) (by omega) (by omega) (by omega))
        (case k3 => rw [rangeSize_one]; split <;> omega)
        (case k4 => exact ⟨vs9, ns9, n9, o1, [], 0, [], 0, [], R, rfl, by with_unfolding_all rfl, by with_unfolding_all rfl, by with_unfolding_all rfl, by with_unfolding_all rfl, hnf9, hso9, hv9, hb9, hs9, r1, r2, allLt_ne l1c, allLt_ne l2d, fun _ h => h, fun h _ => .nil, .nil, fun _ h => (nomatch h), rfl⟩)
        · clear F8 N8 F' N' hnf9 hso9 hv9 hb9 hs9 hv hb hs k8 hRg
          intro i ti m₁ nx h tk I oI hi hJ hI F N
          refine ShJ.use hJ hI F N ?_
          clear hJ hI F N
          intro vs ns n o1 its n1 ws n2 xs R' F N hI1 hI2 hI3 hI4 hI5 hl1 hl2 hnf9 hso9 hv hb hs r1' r2' r3 r4 hRR hTu hws hxs hxl
          have hil : i < 4 := by omega
          replace hl1 := Nat.le_trans hl1 (Nat.le_of_lt hil)
          replace hl2 := Nat.le_trans hl2 (Nat.le_of_lt hil)
          k_steps
          exact sh_next (by k_asm) (by k_asm) (by with_unfolding_all rfl) (by with_unfolding_all rfl) (by with_unfolding_all rfl) (by with_unfolding_all rfl) hnf9 hso9 (by k_asm) (by k_asm) (by k_asm) r1' r2' r3 r4 hRR hTu hws hxs hxl (by assumption) hI1 hI2 hI3 hI4 hI5 (by k_ne) (by k_ne) (by k_ne) (by k_ne) (by k_ne)
        · clear F8 N8 F' N' hnf9 hso9 hv9 hb9 hs9 hv hb hs k8 hRg
          intro m₁ nx h tk hJ F N
          refine ShJ.fin hJ F N ?_
          clear hJ F N
          intro vs ns n o1 its n1 ws n2 xs R' F N hnf9 hso9 hv hb hs r1' r2' r3 r4 hRR hTu hws hxs hxl
          k_steps
          unfold Held
          refine' shCut (n := n) (o0 := o1) (R := (wd, listOf (List.toArray ws) n2) :: (it, listOf (List.toArray its) n1) :: R') F N ?_ ?_ ?_ hnf9 hso9 (by with_unfolding_all rfl) hv hb hs ?_ ?_ ⟨it, wd, its, ws, xs, n1, by with_unfolding_all rfl, by with_unfolding_all rfl, .tail _ (.head _), fun h N' => ⟨News.isList N' (by k_mem), News.isList N' (by k_mem), hTu h fun p hp => N' p (.tail _ (.tail _ hp))⟩, hws, hxs, by omega⟩
          · k_mem
          · k_mem
          · intro p hp
            rcases List.mem_cons.mp hp with z | hp
            · rw [z]; exact .head _
            · rcases List.mem_cons.mp hp with z | hp
              · rw [z]; exact .tail _ (.head _)
              · exact .tail _ (.tail _ (.tail _ (.tail _ hp)))
          · exact all_cons (by k_ne) (all_cons (by k_ne) r1')
          · exact all_cons (by k_ne) (all_cons (by k_ne) r2')
    · intro hC
      k_steps
      unfold Held
      have mS : (sp, listOf vs.toArray n) ∈ RX ++ [(sp, listOf vs.toArray n), (L0, o0)] := List.mem_append_right _ (.head _)
      have mL : (L0, o0) ∈ RX ++ [(sp, listOf vs.toArray n), (L0, o0)] := List.mem_append_right _ (.tail _ (.head _))
      refine' shCut (R := (tbX, listOf tvX.toArray 0) :: RX) ?kF ?kN (.tail _ mS) (.tail _ mL) ?kR hnf hso0 ?kms hv0 hb0 hs0 ?k1 ?k2 ⟨tbX, ?kt, tvX, fun h N => News.isList N (.head _), lnX, (rrX.mono fun _ h => .tail _ h).rows fun _ h => h⟩
      (case kF => k_asm)
      (case kN => k_asm)
      (case kR => exact fun q hq => (List.mem_cons.mp hq).elim (fun z => by rw [z]; exact .head _) fun z => .tail _ (List.mem_append_left _ z))
      (case kms => with_unfolding_all rfl)
      (case kt => with_unfolding_all rfl)
      (case k1 => exact fun q hq => (List.mem_cons.mp hq).elim (fun z => by rw [z]; exact Nat.ne_of_gt (l1X _ mS)) fun z => Nat.ne_of_gt (ltX _ (.head _) _ z))
      (case k2 => exact fun q hq => (List.mem_cons.mp hq).elim (fun z => by rw [z]; exact Nat.ne_of_gt (l1X _ mL)) fun z => Nat.ne_of_gt (ltX _ (.tail _ (.head _)) _ z))
  intro hf
  simpa only using (ensure_type_of% (quiet_coe hf (0 : Nat) (by exact rfl)) "" hf)
end
end
-- part pq
example : True := by
 w_top off
 exact True.intro
namespace T_pq
theorem on_pq : True := True.intro
end T_pq
section
open T_nw T_ex T_sc T_sg T_wt T_me T_wh T_sp T_fx T_st T_lp T_cf T_fm T_ct T_vec T_ci T_jf T_fl T_pl T_pq T_mem
noncomputable def qx (q : Int) : Int × Int := if Int.fmod q 4 = 0 then (Int.fdiv q 4, 1) else if Int.fmod q 2 = 0 then (Int.fdiv q 2, 2) else (q, 4)
noncomputable def wq (q : Int) : Int := if Int.fmod q 4 = 0 then 0 else if Int.fmod q 2 = 0 then 1 else 2
noncomputable def qTab : List Str := [Str.ofString "0000", Str.ofString "2500", Str.ofString "5000", Str.ofString "7500"]
noncomputable def dueB (q c : Int) : Str := if 0 < c then Str.ofString (toString (Int.fdiv (zabs q) 4)) ++ (Str.ofString "." ++ Txt.slice (qTab.getD (Int.fmod (zabs q) 4).toNat (Str.ofString "")) none (some c)) else Str.ofString (toString (Int.fdiv (zabs q) 4))
noncomputable def dueT (q c : Int) : Str := (if q < 0 then Str.ofString "-" else Str.ofString "") ++ dueB q c
noncomputable def QOk (q : Int) : Prop := FracOk (qx q) ∧ mP (qx q).1 (qx q).2 = wq q ∧ mL (qx q).1 (qx q).2 ≤ (if (qx q).1 < 0 then 3 else 2)
theorem q_all : ∀ k < 160, QOk ((k : Nat) - 40 : Int) := by
  unfold QOk FracOk
  decide +kernel
noncomputable def DOk (k c : Nat) : Prop := wq ((k : Nat) - 40 : Int) ≤ (c : Nat) → fmX (some (qx ((k : Nat) - 40 : Int))) (true, ((c : Nat) : Int)) = dueT ((k : Nat) - 40 : Int) (c : Nat) ∧ PyData.strOk (dueT ((k : Nat) - 40 : Int) (c : Nat)) = true
theorem d_all0 : ∀ k < 20, ∀ c < 5, DOk (k + 0) c := by
  unfold DOk
  decide +kernel
theorem d_all1 : ∀ k < 20, ∀ c < 5, DOk (k + 20) c := by
  unfold DOk
  decide +kernel
theorem d_all2 : ∀ k < 20, ∀ c < 5, DOk (k + 40) c := by
  unfold DOk
  decide +kernel
theorem d_all3 : ∀ k < 20, ∀ c < 5, DOk (k + 60) c := by
  unfold DOk
  decide +kernel
theorem d_all4 : ∀ k < 20, ∀ c < 5, DOk (k + 80) c := by
  unfold DOk
  decide +kernel
theorem d_all5 : ∀ k < 20, ∀ c < 5, DOk (k + 100) c := by
  unfold DOk
  decide +kernel
theorem d_all6 : ∀ k < 20, ∀ c < 5, DOk (k + 120) c := by
  unfold DOk
  decide +kernel
theorem d_all7 : ∀ k < 20, ∀ c < 5, DOk (k + 140) c := by
  unfold DOk
  decide +kernel
theorem d_shift {b : Nat} (h : ∀ k < 20, ∀ c < 5, DOk (k + b) c) {k : Nat} (h0 : b ≤ k) (h1 : k < b + 20) {c : Nat} (hc : c < 5) : DOk k c := by
  have := h (k - b) (by omega) c hc
  rwa [Nat.sub_add_cancel h0] at this
theorem d_all (k : Nat) (hk : k < 160) (c : Nat) (hc : c < 5) : DOk k c := by
  by_cases h0 : k < 20
  · exact d_shift d_all0 (by omega) (by omega) hc
  by_cases h1 : k < 40
  · exact d_shift d_all1 (by omega) (by omega) hc
  by_cases h2 : k < 60
  · exact d_shift d_all2 (by omega) (by omega) hc
  by_cases h3 : k < 80
  · exact d_shift d_all3 (by omega) (by omega) hc
  by_cases h4 : k < 100
  · exact d_shift d_all4 (by omega) (by omega) hc
  by_cases h5 : k < 120
  · exact d_shift d_all5 (by omega) (by omega) hc
  by_cases h6 : k < 140
  · exact d_shift d_all6 (by omega) (by omega) hc
  exact d_shift d_all7 (by omega) (by omega) hc
theorem q_ok {q : Int} (h0 : -40 ≤ q) (h1 : q < 120) : QOk q := by
  have := q_all (q + 40).toNat (by omega)
  rwa [show (((q + 40).toNat : Nat) - 40 : Int) = q by omega] at this
theorem d_ok {q c : Int} (h0 : -40 ≤ q) (h1 : q < 120) (c0 : 0 ≤ c) (c1 : c < 5) (hw : wq q ≤ c) : fmX (some (qx q)) (true, c) = dueT q c ∧ PyData.strOk (dueT q c) = true := by
  have := d_all (q + 40).toNat (by omega) c.toNat (by omega)
  unfold DOk at this
  rw [show (((q + 40).toNat : Nat) - 40 : Int) = q by omega, show ((c.toNat : Nat) : Int) = c by omega] at this
  exact this hw
noncomputable def wantF (qs : List Int) : Int := qs.foldl (fun a q => zmax a (wq q)) 0
theorem wq_bounds (q : Int) : 0 ≤ wq q ∧ wq q ≤ 2 := by unfold wq; split <;> (try split) <;> omega
theorem zmax_le {a b : Int} : a ≤ zmax a b ∧ b ≤ zmax a b := by unfold zmax; split <;> omega
theorem zmax_or (a b : Int) : zmax a b = a ∨ zmax a b = b := by unfold zmax; split <;> omega
theorem want_inv : ∀ (qs : List Int) (a : Int), 0 ≤ a → a ≤ 2 → 0 ≤ qs.foldl (fun a q => zmax a (wq q)) a ∧ qs.foldl (fun a q => zmax a (wq q)) a ≤ 2 ∧ a ≤ qs.foldl (fun a q => zmax a (wq q)) a ∧ ∀ q ∈ qs, wq q ≤ qs.foldl (fun a q => zmax a (wq q)) a
  | [], a, h0, h1 => ⟨h0, h1, Int.le_refl _, fun _ h => nomatch h⟩
  | q :: qs, a, h0, h1 => by
    have b := wq_bounds q
    have c := @zmax_le a (wq q)
    have o := zmax_or a (wq q)
    obtain ⟨r1, r2, r3, r4⟩ := want_inv qs (zmax a (wq q)) (by omega) (by omega)
    refine ⟨r1, r2, by simp only [List.foldl_cons]; omega, fun x hx => ?_⟩
    rcases List.mem_cons.mp hx with z | z
    · rw [z]; simp only [List.foldl_cons]; omega
    · exact r4 x z
theorem want_ok (qs : List Int) : 0 ≤ wantF qs ∧ wantF qs ≤ 2 ∧ ∀ q ∈ qs, wq q ≤ wantF qs := by
  obtain ⟨r1, r2, _, r4⟩ := want_inv qs 0 (by omega) (by omega)
  exact ⟨r1, r2, r4⟩
theorem cf_inv : ∀ (qs : List Int) (st : Int × Int × Int × Int), (∀ q ∈ qs, QOk q) → (st.2.2.2 = 0 ∨ st.2.2.2 = 1) → st.2.1 ≤ 2 + st.2.2.2 →
    ((((qs.map qx).foldl cfStep st).2.2.2 = 0 ∨ ((qs.map qx).foldl cfStep st).2.2.2 = 1) ∧ ((qs.map qx).foldl cfStep st).2.1 ≤ 2 + ((qs.map qx).foldl cfStep st).2.2.2 ∧ ((qs.map qx).foldl cfStep st).2.2.1 = qs.foldl (fun a q => zmax a (wq q)) st.2.2.1)
  | [], st, _, h1, h2 => ⟨h1, h2, rfl⟩
  | q :: qs, st, h, h1, h2 => by
    obtain ⟨_, q1, q2⟩ := h q (.head _)
    have z := zmax_or st.2.1 (mL (qx q).1 (qx q).2)
    have key := cf_inv qs (cfStep st (qx q)) (fun x hx => h x (.tail _ hx)) (by
      unfold cfStep; dsimp only; split
      · exact .inr rfl
      · exact h1) (by
      unfold cfStep; dsimp only
      split at q2
      · rename_i hn; rw [if_pos hn]; omega
      · rename_i hn; rw [if_neg hn]; omega)
    simp only [List.map_cons, List.foldl_cons]
    refine ⟨key.1, key.2.1, key.2.2.trans ?_⟩
    show List.foldl _ (zmax st.2.2.1 (mP (qx q).1 (qx q).2)) qs = _
    rw [q1]
theorem cf_quarters {qs : List Int} (h : ∀ q ∈ qs, -40 ≤ q ∧ q < 120) : cfOf (cf4 (qs.map qx)) = (true, wantF qs) := by
  obtain ⟨a, b, c⟩ := cf_inv qs (1, 1, 0, 0) (fun q hq => q_ok (h q hq).1 (h q hq).2) (.inl rfl) (by decide)
  obtain ⟨w0, w2, _⟩ := want_ok qs
  have c' : (cf4 (qs.map qx)).2.2.1 = wantF qs := c
  have a' : (cf4 (qs.map qx)).2.2.2 = 0 ∨ (cf4 (qs.map qx)).2.2.2 = 1 := a
  have b' : (cf4 (qs.map qx)).2.1 ≤ 2 + (cf4 (qs.map qx)).2.2.2 := b
  unfold cfOf
  rw [c', if_pos]
  split <;> split <;> omega
noncomputable def wordsA : List Str := (List.range 7).map fun k => Txt.slice (Str.ofString "abcdefgh") none (some ((k : Nat) : Int))
theorem fill_all : ∀ y ∈ wordsA, y.length ≤ 7 ∧ PyData.strOk y = true ∧ ∀ wd < 9, Txt.rjust y (wd : Nat) = filTw (Str.ofString "right") y (wd : Nat) ∧ Txt.ljust y (wd : Nat) = filTw (Str.ofString "left") y (wd : Nat) ∧
    Txt.ljust (Txt.mul (Str.ofString " ") (Int.fdiv ((wd : Nat) - (y.length : Int)) 2) ++ y) (wd : Nat) = filTw (Str.ofString "centre") y (wd : Nat) ∧ y = filTw (Str.ofString "none") y (wd : Nat) ∧
    ∀ sd ∈ [Str.ofString "left", Str.ofString "right", Str.ofString "centre", Str.ofString "none"], PyData.strOk (filTw sd y (wd : Nat)) = true := by decide +kernel
end
-- part lf
example : True := by
 w_top off
 exact True.intro
namespace T_lf
theorem on_lf : True := True.intro
end T_lf
section
open T_oa T_ot T_lf T_mem
section
variable {prog : Program} {w : World} {p : Program} {loose : List Str} {mean : ExcName → Option Value} {mg mb : Str → Option Value} {dp un : Nat} {fs : Option (List Env)} {gd : Option (List Code)} {s : Shared} {Q E : Value → Shared → Prop} {g : Heap} {L : Addr} {m : Str → Option Value} {news : List (Addr × Obj)} {newsF : Obj → List (Addr × Obj)}
theorem options_f {sp : Addr} {vs : List Value} {ns : List Int} {n : Nat} {eL : Env}
    (C : Site w p loose mean mg mb g) (F : Fr g L s.heap m) (N : News g L s.heap news) (U : UpdF sp (listOf vs.toArray n) news newsF) (B : Below1 fs eL L) (hdd : dp + 20 < recursionLimit) (hu : un + 200 < cLine)
    (hv : IntsAre vs ns) (hb : ∀ i ∈ ns, 0 ≤ i ∧ i < 163) (hs : vs.length ≤ 1000)
    (h : ∀ vs' ns' n' h' tk', Fr g L h' m → News g L h' (newsF (listOf vs'.toArray n')) → IntsAre vs' ns' → (∀ i ∈ ns', 0 ≤ i ∧ i < 163) → vs'.length ≤ 1000 → Q (.bool true) { s with heap := h', toks := tk' }) :
    wpAny (model prog w) (At dp un fs gd) (call (.ref 345) [.ref sp]) Q E s := by
  obtain ⟨pre, post, hl, hg, a, b⟩ := U.split
  have hm : (sp, listOf vs.toArray n) ∈ news := by rw [hl]; exact List.mem_append_right _ (.head _)
  obtain ⟨e1, e2, e3⟩ := N _ hm
  have hL := kts_self F
  obtain ⟨oL, es, ep, f1, f2, f3⟩ := F.ns
  refine options_ok (L0 := L) (o0 := oL) ⟨g, C, F.keep, fun a ha => ?_⟩ B e2 hdd hu e1 f1 (fun vs e => by rw [f2] at e; cases e) hv hb hs fun h' tk' vs' ns' n' sl k q1 q2 hv' hb' hs' => ?_
  · rcases List.mem_cons.mp ha with z | z
    · rw [z]; exact e3
    · rw [List.mem_singleton.mp z]; exact hL
  · refine h vs' ns' n' h' tk' ⟨⟨_, es, ep, q2, f2, f3⟩, fun b o e => k b o (fun z => by rw [z, e3] at e; cases e) (fun z => by rw [z, hL] at e; cases e) (F.keep b o e), F.above⟩ ?_ hv' hb' hs'
    rw [hg]
    intro q hq
    rcases List.mem_append.mp hq with z | z
    · have := N q (by rw [hl]; exact List.mem_append_left _ z)
      exact ⟨k _ _ (a q z) this.2.1 this.1, this.2⟩
    · rcases List.mem_cons.mp z with z | z
      · rw [z]; exact ⟨q1, e2, e3⟩
      · have := N q (by rw [hl]; exact List.mem_append_right _ (.tail _ z))
        exact ⟨k _ _ (b q z) this.2.1 this.1, this.2⟩
theorem shown_f {sp : Addr} {vs : List Value} {ns : List Int} {n : Nat} {eL : Env}
    (C : Site w p loose mean mg mb g) (F : Fr g L s.heap m) (N : News g L s.heap news) (U : UpdF sp (listOf vs.toArray n) news newsF) (B : Below1 fs eL L) (hdd : dp + 20 < recursionLimit) (hu : un + 200 < cLine)
    (hv : IntsAre vs ns) (hb : ∀ i ∈ ns, 0 ≤ i ∧ i < 163) (hs : vs.length ≤ 1000)
    (h : ∀ vs' ns' n' h' tk', Fr g L h' m → News g L h' (newsF (listOf vs'.toArray n')) → IntsAre vs' ns' → (∀ i ∈ ns', 0 ≤ i ∧ i < 163) → vs'.length ≤ 1000 → Q (.bool true) { s with heap := h', toks := tk' }) :
    wpAny (model prog w) (At dp un fs gd) (call (.ref 357) [.ref sp]) Q E s := by
  obtain ⟨pre, post, hl, hg, a, b⟩ := U.split
  have hm : (sp, listOf vs.toArray n) ∈ news := by rw [hl]; exact List.mem_append_right _ (.head _)
  obtain ⟨e1, e2, e3⟩ := N _ hm
  have hL := kts_self F
  obtain ⟨oL, es, ep, f1, f2, f3⟩ := F.ns
  refine shown_ok (L0 := L) (o0 := oL) ⟨g, C, F.keep, fun a ha => ?_⟩ B e2 hdd hu e1 f1 (fun vs e => by rw [f2] at e; cases e) hv hb hs fun h' tk' vs' ns' n' sl k q1 q2 hv' hb' hs' => ?_
  · rcases List.mem_cons.mp ha with z | z
    · rw [z]; exact e3
    · rw [List.mem_singleton.mp z]; exact hL
  · refine h vs' ns' n' h' tk' ⟨⟨_, es, ep, q2, f2, f3⟩, fun b o e => k b o (fun z => by rw [z, e3] at e; cases e) (fun z => by rw [z, hL] at e; cases e) (F.keep b o e), F.above⟩ ?_ hv' hb' hs'
    rw [hg]
    intro q hq
    rcases List.mem_append.mp hq with z | z
    · have := N q (by rw [hl]; exact List.mem_append_left _ z)
      exact ⟨k _ _ (a q z) this.2.1 this.1, this.2⟩
    · rcases List.mem_cons.mp z with z | z
      · rw [z]; exact ⟨q1, e2, e3⟩
      · have := N q (by rw [hl]; exact List.mem_append_right _ (.tail _ z))
        exact ⟨k _ _ (b q z) this.2.1 this.1, this.2⟩
end
example : True := by
 (k_with "call ref" => ((fail_if_success (fail_if_success (have := @on_lf))); ((k_here; (with_reducible refine (?_ : wpAny _ _ (call (Value.ref 345) _) _ _ _)); k_dflt (refine' options_f ?kC ?kF ?kN ?kU ?kB ?kd ?ku ?kv ?kb ?ks ?_; (case kC => exact ⟨by k_asm, by k_asm⟩); (case kF => k_asm); (case kN => k_asm); (case kU => k_updF); (case kB => exact ⟨rfl, rfl, rfl⟩); (case kd => decide); (case ku => decide); (case kv => assumption); (case kb => assumption); (case ks => assumption); k_whole; intro vs9 ns9 n9 h9 tk9 F9 N9 hv9 hb9 hs9; (try dsimp only at N9); (try k_sweep); (try dsimp only); (try k_fold))))))
 exact True.intro
example : True := by
 (k_with "call ref" => ((fail_if_success (fail_if_success (have := @on_lf))); ((k_here; (with_reducible refine (?_ : wpAny _ _ (call (Value.ref 357) _) _ _ _)); k_dflt (refine' shown_f ?kC ?kF ?kN ?kU ?kB ?kd ?ku ?kv ?kb ?ks ?_; (case kC => exact ⟨by k_asm, by k_asm⟩); (case kF => k_asm); (case kN => k_asm); (case kU => k_updF); (case kB => exact ⟨rfl, rfl, rfl⟩); (case kd => decide); (case ku => decide); (case kv => assumption); (case kb => assumption); (case ks => assumption); k_whole; intro vs9 ns9 n9 h9 tk9 F9 N9 hv9 hb9 hs9; (try dsimp only at N9); (try k_sweep); (try dsimp only); (try k_fold))))))
 exact True.intro
example : True := by
 (k_with "call ref" => ((fail_if_success (fail_if_success (have := @on_lf))); ((k_here; (with_reducible refine (?_ : wpAny _ _ (call (Value.ref 319) _) _ _ _)); k_dflt (refine' law_threads_ok ?kC ?kd ?ku ?kl ?ki ?ks ?_; (case kC => k_extra "ktr_rel"); (case kd => decide); (case ku => decide); (case kl => first | assumption | exact stays_list (Fr.keep (by k_asm)) (by assumption)); (case ki => assumption); (case ks => assumption); k_whole; intro v9 h9 tk9 keep9 e9; obtain ⟨r9, zs9, ms9, n9, q9, n90, s9, hv9, hb9, hs90⟩ := e9; subst q9; have hs9 := Nat.le_trans hs90 (Nat.le_of_ble_eq_true (rfl : Nat.ble 60 1000 = true)); have o9 := allNe_of n90 (by k_asm); (try simp only [List.nil_append, List.cons_append, List.append_nil, AllNe, and_true] at o9); have N9 := news_cons (by k_asm) (by k_asm) keep9 n90 s9; (try simp only [List.nil_append, List.cons_append, List.append_nil] at N9); have F9 := fr_on (by k_asm) keep9; clear keep9 n90 s9 hs90; (try dsimp only); (try k_fold))))))
 exact True.intro
end
-- part lg
example : True := by
 w_top off
 exact True.intro
namespace T_lg
theorem on_lg : True := True.intro
end T_lg
section
open T_nw T_sg T_vec T_cn T_cx T_cf T_lp T_ln T_jf T_jc T_fl T_ob T_pq T_lg T_mem
noncomputable def AnyPost (h₀ : Heap) (L I ax : Addr) (oI lo : Obj) (J : (Str → Option Value) → List (Addr × Obj) → Prop) (s₁ : Shared) (Q : Flow → Shared → Prop) (f : Flow) (s₂ : Shared) : Prop :=
  match f with
  | .ret v => Q (.ret v) s₂
  | .brk => Q .next s₂
  | _ => ∃ h' tk m' nx', s₂ = { s₁ with heap := h', toks := tk } ∧ Fr h₀ L h' m' ∧ News h₀ L h' ((I, oI) :: (ax, lo) :: nx') ∧ (∀ p ∈ nx', (@Ne Nat p.1 I) ∧ (@Ne Nat p.1 ax)) ∧ J m' nx'
theorem any_next {h₀ h' : Heap} {L I ax : Addr} {oI lo : Obj} {J : (Str → Option Value) → List (Addr × Obj) → Prop} {s₁ : Shared} {Q : Flow → Shared → Prop} {tk : Nat} {m' : Str → Option Value} {all : List (Addr × Obj)} (nx' : List (Addr × Obj))
    (F : Fr h₀ L h' m') (N : News h₀ L h' all) (sub : ∀ p ∈ (I, oI) :: (ax, lo) :: nx', p ∈ all) (hI : ∀ p ∈ nx', (@Ne Nat p.1 I) ∧ (@Ne Nat p.1 ax)) (hj : J m' nx') : AnyPost h₀ L I ax oI lo J s₁ Q .next { s₁ with heap := h', toks := tk } := ⟨h', tk, m', nx', rfl, F, fun p hp => N p (sub p hp), hI, hj⟩
section
variable {prog : Program} {w : World} {A : Around} {E : Value → Shared → Prop} {s : Shared} {env : Env} {h₀ : Heap} {target : Expr} {body : List Stmt} {Q : Flow → Shared → Prop}
noncomputable def AnyAt (h₀ : Heap) (L : Addr) (J : (Str → Option Value) → List (Addr × Obj) → Prop) (V : Value → Prop) (s : Shared) (xv : Value) (s₁ : Shared) : Prop :=
  ∃ ax nx lo vs n m₀ h tk, xv = .ref ax ∧ s₁ = { s with heap := h, toks := tk } ∧ Fr h₀ L h m₀ ∧ News h₀ L h ((ax, lo) :: nx) ∧ lo.cls = .type "list" ∧ lo.data = .seq (List.toArray vs) n ∧ (∀ p ∈ nx, @Ne Nat p.1 ax) ∧ J m₀ nx ∧ ∀ v ∈ vs, V v
theorem anyAt {L ax : Addr} {lo : Obj} {J : (Str → Option Value) → List (Addr × Obj) → Prop} {V : Value → Prop} {vs : List Value} {n tk : Nat} {h : Heap} {m₀ : Str → Option Value} {nx : List (Addr × Obj)}
    (F : Fr h₀ L h m₀) (N : News h₀ L h ((ax, lo) :: nx)) (hc : lo.cls = .type "list") (hd : lo.data = .seq (List.toArray vs) n) (hne : ∀ p ∈ nx, @Ne Nat p.1 ax) (hj : J m₀ nx) (hV : ∀ v ∈ vs, V v) : AnyAt h₀ L J V s (.ref ax) { s with heap := h, toks := tk } :=
  ⟨ax, nx, lo, vs, n, m₀, h, tk, rfl, rfl, F, N, hc, hd, hne, hj, hV⟩
theorem For_any {iter : Expr} {pos : Pos} {m : Str → Option Value} (_F : Fr h₀ env.locals s.heap m) (J : (Str → Option Value) → List (Addr × Obj) → Prop) (V : Value → Prop)
    (turn : ∀ v h tk m nx I oI ax lo, V v → J m nx → (∀ p ∈ nx, (@Ne Nat p.1 I) ∧ (@Ne Nat p.1 ax)) → (@Ne Nat ax I) → Fr h₀ env.locals h m → News h₀ env.locals h ((I, oI) :: (ax, lo) :: nx) →
      wpAny (model prog w) A (assign target env v) (fun _ s₂ => wpAny (model prog w) A (execs body env) (AnyPost h₀ env.locals I ax oI lo J { s with heap := h, toks := tk } Q) E s₂) E { s with heap := h, toks := tk })
    (done : ∀ h tk m nx, J m nx → Fr h₀ env.locals h m → News h₀ env.locals h nx → Q .next { s with heap := h, toks := tk })
    (h : wpAny (model prog w) A (eval iter env) (AnyAt h₀ env.locals J V s) E s)
    (hh : A.handled = none)
    (hs : ∀ x, foldedSetIterable iter env x = pure x := by intro _; rfl)
    (hE : PassesOwn (model prog w) A env E := by passes_own) :
    wpAny (model prog w) A (exec (.For target iter body [] pos) env) Q E s := by
  refine For_turns _F (wpAny_mono h (fun xv s₁ h₁ => ?_) fun _ _ e => e) hs hE
  obtain ⟨ax, nx₀, lo, vs, n, m₀, h', tk', rfl, rfl, F, N, hc, hd, hne, j0, hV⟩ := h₁
  refine iter_listTurns (s := { s with heap := h', toks := tk' }) hh F N (.head _) hc hd fun I hI => ?_
  have hIx : @Ne Nat ax I := Nat.ne_of_lt (hI _ (.head _))
  have key : ∀ (ws : List Value) (m : Str → Option Value) (nx : List (Addr × Obj)), (∀ v ∈ ws, V v) → J m nx → (∀ p ∈ nx, (@Ne Nat p.1 I) ∧ (@Ne Nat p.1 ax)) → ItemsRest prog w A E h₀ env target body Q { s with heap := h', toks := tk' } [(I, "list_iterator")] [(ax, lo)] (ws.map .val) m ((ax, lo) :: nx) := by
    intro ws
    induction ws with
    | nil => intro m nx _ hj _; exact ItemsRest.zero fun h tk F' N' => done h tk m nx hj F' fun p hp => N' p (.tail _ hp)
    | cons v ws ih =>
      intro m nx hv hj hIn
      refine ItemsRest.val fun h tk F' => AllObj.cons fun oI _ => AllObj.nil fun N' => ?_
      refine wpAny_mono (turn v h tk m nx I oI ax lo (hv v (.head _)) hj hIn hIx F' N') (fun _ s₂ q => wpAny_mono q (fun f s₃ q => ?_) fun _ _ e => e) fun _ _ e => e
      have fin : (∃ h' tk' m' nx', s₃ = { s with heap := h', toks := tk' } ∧ Fr h₀ env.locals h' m' ∧ News h₀ env.locals h' ((I, oI) :: (ax, lo) :: nx') ∧ (∀ p ∈ nx', (@Ne Nat p.1 I) ∧ (@Ne Nat p.1 ax)) ∧ J m' nx') →
          UnrEndW h₀ env.locals { s with heap := h, toks := tk } [(I, oI)] (fun m' n' => SubL [(ax, lo)] n' ∧ ItemsRest prog w A E h₀ env target body Q { s with heap := h', toks := tk' } [(I, "list_iterator")] [(ax, lo)] (ws.map .val) m' n') s₃ := by
        rintro ⟨h2, tk2, m2, nx2, rfl, F2, N2, s2, j2⟩
        refine ⟨h2, tk2, m2, (ax, lo) :: nx2, rfl, F2, N2, fun p hp q hq => ?_, ⟨.head _, trivial⟩, ih m2 nx2 (fun v hv' => hv v (.tail _ hv')) j2 s2⟩
        rw [List.mem_singleton.mp hq]
        rcases List.mem_cons.mp hp with z | z
        · rw [z]; exact hIx
        · exact (s2 p z).1
      cases f with
      | ret v => exact q
      | brk => exact q
      | next => exact fin q
      | cont => exact fin q
  exact key vs m₀ nx₀ hV j0 fun p hp => ⟨Nat.ne_of_lt (hI p (.tail _ hp)), hne p hp⟩
end
section
variable {prog : Program} {w : World} {A : Around} {E : Value → Shared → Prop} {s : Shared} {env : Env} {h₀ : Heap} {x : Str} {body : List Stmt} {Q : Flow → Shared → Prop}
theorem fn_iterK {l : Addr} {ol : Obj} {vs : List Value} {k : Nat} {m₀ : Str → Option Value} {news : List (Addr × Obj)} (J : Nat → (Str → Option Value) → List (Addr × Obj) → Prop)
    (hh : A.handled = none) (N : News h₀ env.locals s.heap news) (hl : (l, ol) ∈ news) (hol : ol = listOf vs.toArray k) (F : Fr h₀ env.locals s.heap m₀) (hj : J 0 m₀ news) (hJl : ∀ i m nx, J i m nx → (l, ol) ∈ nx)
    (turn : ∀ i v m₁ nx h tk I oI, vs[i]? = some v → J i m₁ nx → (∀ p ∈ nx, @Ne Nat p.1 I) → Fr h₀ env.locals h (fun y => if y = x then some v else m₁ y) → News h₀ env.locals h ((I, oI) :: nx) →
      wpAny (model prog w) A (execs body env) (FvPost h₀ env.locals (J (i + 1)) (I, oI) { s with heap := h, toks := tk } Q) E { s with heap := h, toks := tk })
    (done : ∀ m₁ nx h tk, J vs.length m₁ nx → Fr h₀ env.locals h m₁ → News h₀ env.locals h nx → Q .next { s with heap := h, toks := tk }) :
    wpAny (model prog w) A (pyIter (.ref l)) (fun it s₂ => LoopAtV prog w A h₀ env x body Q E it s₂) E s := by
  subst hol
  obtain ⟨hol1, hol2, hol3⟩ := N _ hl
  have hnow : s.heap.IsList l vs.toArray := ⟨_, hol1, rfl, _, rfl⟩
  have hL : env.locals < s.heap.objs.size := F.ns.lt
  have hne : l ≠ s.heap.objs.size := Nat.ne_of_lt (Heap.lt_size hol1)
  have W := Walks.list (prog := prog) (w := w) hh s.heap.objs.size l hne vs.toArray
  rw [show (List.toArray vs).size = vs.length from List.size_toArray ..] at W
  refine wpAny_pyIter_list hnow ⟨_, _, _, vs.length, _, _, m₀, news, J, rfl, W, ?_, ?_, ?_, ⟨⟨_, Heap.get?_push_size _ rfl, rfl, rfl⟩, hnow.at fun o e => Heap.get?_push_of_some _ e⟩, F.push _, fun p hp => ⟨Heap.get?_push_of_some _ (N p hp).1, (N p hp).2⟩, hj, ?_, ?_⟩
  · intro q
    simp only [List.mem_cons, List.not_mem_nil, or_false] at q
    rcases q with q | q
    · rw [q] at hL; exact Nat.lt_irrefl _ hL
    · exact hol2 q.symm
  · intro b hb
    rw [List.mem_singleton.mp hb]
    exact next_is_new F
  · intro p hp q
    have h1 := Heap.lt_size (N p hp).1
    rw [List.mem_singleton.mp q] at h1
    exact Nat.lt_irrefl _ h1
  · rintro i v m₁ nx s₁ own ⟨h, tk, rfl⟩ _ hP hJ hoff hown hget hall hst F₁ N₁
    obtain ⟨⟨oI, hoI, _⟩, ⟨ol, hol, _⟩⟩ := id hst
    have hI : (s.heap.objs.size, oI) ∈ own := hall _ (.head _) (next_is_new F) oI hoI
    have hlnx := hJl _ _ _ hJ
    have hlo : h.get? l = some (listOf vs.toArray k) := (N₁ _ (List.mem_append_right _ hlnx)).1
    have htwo : ∀ p ∈ own, p = (s.heap.objs.size, oI) ∨ p = (l, listOf vs.toArray k) := by
      intro p hp
      have h2 := hown p hp
      have h3 := hget p hp
      simp only [List.mem_cons, List.not_mem_nil, or_false] at h2
      rcases h2 with h2 | h2
      · rw [h2] at h3
        exact .inl (Prod.ext h2 (Option.some.inj (h3.symm.trans hoI)))
      · rw [h2] at h3
        exact .inr (Prod.ext h2 (Option.some.inj (h3.symm.trans hlo)))
    have hsep : ∀ p ∈ nx, @Ne Nat p.1 s.heap.objs.size := fun p hp q => hoff p hp (List.mem_singleton.mpr q)
    have N₂ : News h₀ env.locals h ((s.heap.objs.size, oI) :: nx) := by
      intro p hp
      rcases List.mem_cons.mp hp with hp | hp
      · rw [hp]; exact N₁ _ (List.mem_append_left _ hI)
      · exact N₁ p (List.mem_append_right _ hp)
    refine wpAny_mono (turn i v m₁ nx h tk _ oI (by simpa using hP) hJ hsep F₁ N₂) (fun f s₂ p => ?_) fun _ _ e => e
    have fin : FvEnd h₀ env.locals (J (i + 1)) (s.heap.objs.size, oI) { s with heap := h, toks := tk } s₂ → LoopStepU h₀ env.locals [s.heap.objs.size] own (J (i + 1)) { s with heap := h, toks := tk } .next s₂ := by
      rintro ⟨h', tk', m', news', nx', e, F', N', hn', ho, ha, hm⟩
      refine ⟨rfl, h', tk', m', nx', e, F', fun p hp => ?_, fun p hp q => ha p hp (List.mem_singleton.mp q), hm⟩
      rcases List.mem_append.mp hp with hp | hp
      · rcases htwo p hp with z | z
        · rw [z]; exact N' _ ho
        · rw [z]; exact N' _ (hn' _ (hJl _ _ _ hm))
      · exact N' _ (hn' p hp)
    cases f with
    | ret v => exact .ret p
    | brk => exact .brk p
    | next => exact .next (fin p)
    | cont => exact .cont (fin p)
  · intro h' tk m' news' F' N' _ hJ
    exact done m' news' h' tk hJ F' N'
end
noncomputable def Side4 (y : Str) : Prop := y = Str.ofString "left" ∨ y = Str.ofString "right" ∨ y = Str.ofString "centre" ∨ y = Str.ofString "none"
theorem fill_at {y sd : Str} {wd : Int} (hy : y ∈ wordsA) (h0 : 0 ≤ wd) (h1 : wd < 9) : y.length ≤ 7 ∧ PyData.strOk y = true ∧ Txt.rjust y wd = filTw (Str.ofString "right") y wd ∧ Txt.ljust y wd = filTw (Str.ofString "left") y wd ∧
    Txt.ljust (Txt.mul (Str.ofString " ") (Int.fdiv (wd - (y.length : Int)) 2) ++ y) wd = filTw (Str.ofString "centre") y wd ∧ y = filTw (Str.ofString "none") y wd ∧ (Side4 sd → PyData.strOk (filTw sd y wd) = true) := by
  obtain ⟨a, b, c⟩ := fill_all y hy
  have := c wd.toNat (by omega)
  rw [show ((wd.toNat : Nat) : Int) = wd by omega] at this
  obtain ⟨c1, c2, c3, c4, c5⟩ := this
  refine ⟨a, b, c1, c2, c3, c4, fun hs => c5 sd ?_⟩
  simp only [List.mem_cons, List.not_mem_nil, or_false]
  exact hs
theorem map_eq_of {α β : Type} {f g : α → β} {l : List α} (h : ∀ x ∈ l, f x = g x) : l.map f = l.map g := List.map_congr_left h
section
variable {prog : Program} {w : World} {p : Program} {loose : List Str} {mean : ExcName → Option Value} {mg mb : Str → Option Value} {dp un : Nat} {fs : Option (List Env)} {gd : Option (List Code)} {s : Shared} {Q E : Value → Shared → Prop} {g : Heap} {L : Addr} {m : Str → Option Value} {news : List (Addr × Obj)}
theorem just_f {l : Addr} {vs : List Value} {ys : List Str} {k : Nat} {wd : Int} {sd : Str} {tw ts : Tok}
    (C : Site w p loose mean mg mb g) (F : Fr g L s.heap m) (N : News g L s.heap news) (hm : (l, listOf vs.toArray k) ∈ news) (hd : dp + 3 < recursionLimit) (hi : StrsAre vs ys) (hl : vs.length ≤ 1000) (hy : ∀ y ∈ ys, y ∈ wordsA) (w0 : 0 ≤ wd) (w1 : wd < 9) (hs : Side4 sd)
    (h : ∀ r zs n h' tk', Fr g L h' m → News g L h' ((r, listOf (List.toArray zs) n) :: news) → StrsAre zs (ys.map fun y => filTw sd y wd) → Q (.ref r) { s with heap := h', toks := tk' }) :
    wpAny (model prog w) (At dp un fs gd) (call (.ref 305) [.ref l, .int wd tw, .str sd ts]) Q E s := by
  have C' : Site w p loose mean mg mb s.heap := ⟨C.X.keeps F.keep, C.T.keeps F.keep⟩
  have hL : s.heap.IsList l vs.toArray := News.isList N hm
  have new : ∀ (zs0 : List Str), zs0 = ys.map (fun y => filTw sd y wd) → Ret s Q (TextsPost s zs0) := by
    rintro _ rfl v h' tk' k1 ⟨r, zs, n, rfl, e1, e2, e3⟩
    exact h r zs n h' tk' (fr_on F k1) (news_cons F N k1 e1 e2) e3
  rcases hs with q | q | q | q <;> subst q
  · exact justified_left_ok C' hd hL hi hl w0 (by omega) (new _ (map_eq_of fun y hm => (fill_at (sd := Str.ofString "left") (hy y hm) w0 w1).2.2.2.1))
  · exact justified_right_ok C' hd hL hi hl w0 (by omega) (new _ (map_eq_of fun y hm => (fill_at (sd := Str.ofString "left") (hy y hm) w0 w1).2.2.1))
  · exact justified_centre_ok C' hd hL hi hl w0 (by omega) (fun y hm => Nat.le_trans (fill_at (sd := Str.ofString "left") (hy y hm) w0 w1).1 (by decide)) (new _ (map_eq_of fun y hm => (fill_at (sd := Str.ofString "left") (hy y hm) w0 w1).2.2.2.2.1))
  · refine justified_none_ok C' hd fun v h' tk' k1 e => ?_
    subst e
    refine h l vs k h' tk' (fr_on F k1) (fun p hp => ?_) ?_
    · rcases List.mem_cons.mp hp with z | z
      · rw [z]; exact news_on N k1 _ hm
      · exact news_on N k1 p z
    · rw [show (ys.map fun y => filTw (Str.ofString "none") y wd) = ys from by
        rw [map_eq_of (g := id) fun y hm => (fill_at (sd := Str.ofString "left") (hy y hm) w0 w1).2.2.2.2.2.1.symm, List.map_id]]
      exact hi
end
end
-- part lw
example : True := by
 w_top off
 exact True.intro
namespace T_lw
theorem on_lw : True := True.intro
end T_lw
section
open T_nw T_vec T_cn T_cx T_cf T_lp T_ln T_oa T_ot T_mv T_ob T_pl T_jf T_fl T_pq T_lg T_lf T_lw T_mem
example : True := by
 (k_with "ktr_unf" => ((fail_if_success (fail_if_success (have := @on_lw))); (decide)))
 exact True.intro
example : True := by
 (k_with "kwd_rel" => ((fail_if_success (fail_if_success (have := @on_lw))); (decide)))
 exact True.intro
example : True := by
 (k_with "k_all" => ((fail_if_success (fail_if_success (have := @on_lw))); (assumption)))
 exact True.intro
example : True := by
 (k_with "kat_tups" => ((fail_if_success (fail_if_success (have := @on_lw))); (first | exact sub_self | assumption | (refine sub_tail ?_; k_extra "kat_tups"))))
 exact True.intro
example : True := by
 (k_with "exec Assign cons ListComp" => ((fail_if_success (fail_if_success (have := @on_lw))); ((k_here; k_dflt (refine LCg.Assign_ListComp_U (F₀ := by k_asm) (by rfl) (by with_unfolding_all rfl) (by with_unfolding_all rfl) (by decide) (by rfl) (by decide) (by rfl) (by rfl) (by rfl) ?_)))))
 exact True.intro
example : True := by
 (k_with "call type:range" => ((fail_if_success (fail_if_success (have := @on_lw))); ((k_here; (rename Fr _ _ _ _ => F'); (rename News _ _ _ _ => N'); (with_unfolding_all refine range1_rows F' N' ?_; intro _ _ _ _ _ _ _ _ _)))))
 exact True.intro
example : True := by
 (k_with "CompSrc" => ((fail_if_success (fail_if_success (have := @on_lw))); ((k_here; refine Held.go ?_))))
 exact True.intro
example : True := by
 (k_with "exec For Name List cons nil" => ((fail_if_success (fail_if_success (have := @on_lw))); ((k_here; refine Held.go ?_))))
 exact True.intro
example : True := by
 (k_with "pyIter ref" => ((fail_if_success (fail_if_success (have := @on_lw))); ((k_here; refine Held.go ?_))))
 exact True.intro
example : True := by
 (k_with "execs cons" => ((fail_if_success (fail_if_success (have := @on_lw))); ((k_here; (rename CutAt _ _ _ _ _ _ _ _ => hC9); (with_reducible refine CutAt.use hC9 ?_); refine Held.go ?_))))
 exact True.intro
theorem cut2 {prog : Program} {w : World} {A : Around} {env : Env} {a b : Stmt} {tail : List Stmt} {Q : Flow → Shared → Prop} {E : Value → Shared → Prop} {s : Shared} (P : Shared → Prop) (hT : CutAt prog w A env tail Q E P) (h : CutAt prog w A env tail Q E P → wpAny (model prog w) A (execs (a :: b :: tail) env) Q E s) : wpAny (model prog w) A (execs (a :: b :: tail) env) Q E s := h hT
noncomputable def LwSt (g : Heap) (L : Nat) (s : Shared) (K : (Str → Option Value) → Obj → List (Addr × Obj) → Prop) (s' : Shared) : Prop :=
  ∃ h tk m vs ns n sp o1 o2 o3 R, s' = { s with heap := h, toks := tk } ∧ Fr g L h m ∧ News g L h ((sp, listOf (List.toArray vs) n) :: (L + 1 + 1 + 1, o1) :: (L + 1 + 1, o2) :: (L + 1, o3) :: R) ∧ (∃ x, o1.data = .cell x) ∧ (∃ x, o2.data = .cell x) ∧ o3.data = .cell (some (.ref sp)) ∧
    IntsAre vs ns ∧ (∀ i ∈ ns, (0 : Int) ≤ i ∧ i < 163) ∧ vs.length ≤ 1000 ∧ ((@Ne Nat sp (L + 1 + 1 + 1)) ∧ (@Ne Nat sp (L + 1 + 1)) ∧ (@Ne Nat sp (L + 1))) ∧ (∀ p ∈ R, p.1 ≠ sp) ∧ (∀ p ∈ R, p.1 ≠ L + 1 + 1 + 1) ∧ (∀ p ∈ R, p.1 ≠ L + 1 + 1) ∧ (∀ p ∈ R, p.1 ≠ L + 1) ∧ K m o2 R
theorem lwSt {g h : Heap} {L : Nat} {s : Shared} {K : (Str → Option Value) → Obj → List (Addr × Obj) → Prop} {tk n : Nat} {m : Str → Option Value} {vs : List Value} {ns : List Int} {sp : Addr} {o1 o2 o3 : Obj} {news : List (Addr × Obj)} (R : List (Addr × Obj))
    (F : Fr g L h m) (N : News g L h news) (hm : (sp, listOf (List.toArray vs) n) ∈ news) (h1 : (L + 1 + 1 + 1, o1) ∈ news) (h2 : (L + 1 + 1, o2) ∈ news) (h3 : (L + 1, o3) ∈ news) (hR : ∀ p ∈ R, p ∈ news) (d1 : ∃ x, o1.data = .cell x) (d2 : ∃ x, o2.data = .cell x) (d3 : o3.data = .cell (some (.ref sp)))
    (hv : IntsAre vs ns) (hb : ∀ i ∈ ns, (0 : Int) ≤ i ∧ i < 163) (hs : vs.length ≤ 1000) (lt : (@Ne Nat sp (L + 1 + 1 + 1)) ∧ (@Ne Nat sp (L + 1 + 1)) ∧ (@Ne Nat sp (L + 1))) (r1 : ∀ p ∈ R, p.1 ≠ sp) (r2 : ∀ p ∈ R, p.1 ≠ L + 1 + 1 + 1) (r3 : ∀ p ∈ R, p.1 ≠ L + 1 + 1) (r4 : ∀ p ∈ R, p.1 ≠ L + 1) (hk : K m o2 R) : LwSt g L s K { s with heap := h, toks := tk } :=
  ⟨h, tk, m, vs, ns, n, sp, o1, o2, o3, R, rfl, F, fun q hq => by
    rcases List.mem_cons.mp hq with z | hq
    · rw [z]; exact N _ hm
    · rcases List.mem_cons.mp hq with z | hq
      · rw [z]; exact N _ h1
      · rcases List.mem_cons.mp hq with z | hq
        · rw [z]; exact N _ h2
        · rcases List.mem_cons.mp hq with z | hq
          · rw [z]; exact N _ h3
          · exact N _ (hR q hq), d1, d2, d3, hv, hb, hs, lt, r1, r2, r3, r4, hk⟩
noncomputable def LwWords (g : Heap) (L : Nat) (m : Str → Option Value) (o2 : Obj) (R : List (Addr × Obj)) : Prop :=
  ∃ wl ws ys n1 wd t, m "words" = some (.ref wl) ∧ (wl, listOf (List.toArray ws) n1) ∈ R ∧ StrsAre ws ys ∧ (∀ y ∈ ys, y ∈ wordsA) ∧ ys.length ≤ 5 ∧ o2.data = .cell (some (.int wd t)) ∧ 0 ≤ wd ∧ wd < 9
noncomputable def WordInv (L : Nat) (sp : Addr) (o1 o2 o3 : Obj) (R : List (Addr × Obj)) (i : Nat) (zs : List Value) (nw : List (Addr × Obj)) : Prop :=
  ∃ vs ns n ys, nw = (sp, listOf (List.toArray vs) n) :: (L + 1 + 1 + 1, o1) :: (L + 1 + 1, o2) :: (L + 1, o3) :: R ∧ IntsAre vs ns ∧ (∀ i ∈ ns, (0 : Int) ≤ i ∧ i < 163) ∧ vs.length ≤ 1000 ∧ StrsAre zs ys ∧ (∀ y ∈ ys, y ∈ wordsA) ∧ ys.length = i
theorem word_in {r : Int} (h0 : 0 ≤ r) (h1 : r < 7) : Txt.slice (Str.ofString "abcdefgh") none (some r) ∈ wordsA :=
  List.mem_map.mpr ⟨r.toNat, List.mem_range.mpr (by omega), by rw [show ((r.toNat : Nat) : Int) = r by omega]⟩
theorem word_end {g h' : Heap} {L : Nat} {sp I C D : Addr} {o1 o2 o3 oI oC : Obj} {R : List (Addr × Obj)} {i n n' tk : Nat} {zs vs vs' : List Value} {ns' : List Int} {ys : List Str} {r : Int} {t : Tok} {m : Str → Option Value} {s : Shared}
    (F : Fr g L h' m) (N : News g L h' ((I, oI) :: (C, oC) :: (D, LCg.lst zs) :: (sp, listOf (List.toArray vs') n') :: (L + 1 + 1 + 1, o1) :: (L + 1 + 1, o2) :: (L + 1, o3) :: R)) (off : LCg.Off3 I C D ((sp, listOf (List.toArray vs) n) :: (L + 1 + 1 + 1, o1) :: (L + 1 + 1, o2) :: (L + 1, o3) :: R))
    (hv : IntsAre vs' ns') (hb : ∀ i ∈ ns', (0 : Int) ≤ i ∧ i < 163) (hs : vs'.length ≤ 1000) (hz : StrsAre zs ys) (hy : ∀ y ∈ ys, y ∈ wordsA) (hl : ys.length = i) (h0 : 0 ≤ r) (h1 : r < 7) :
    CompG g L m s I C D oI oC zs (fun _ => True) (fun y nw' => WordInv L sp o1 o2 o3 R (i + 1) (zs ++ [y]) nw') (.str (Txt.slice (Str.ofString "abcdefgh") none (some r)) t) { s with heap := h', toks := tk } :=
  compG _ F N (fun p hp => hp) off trivial ⟨vs', ns', n', ys ++ [_], rfl, hv, hb, hs, strsAre_snoc hz, fun y hm => by
    rcases List.mem_append.mp hm with z | z
    · exact hy y z
    · rw [List.mem_singleton.mp z]; exact word_in h0 h1, by rw [List.length_append, hl]; rfl⟩
theorem sub_five {a b c d e : Addr × Obj} {R : List (Addr × Obj)} : ∀ p ∈ a :: R, p ∈ a :: b :: c :: d :: e :: R := fun p hp => by
  rcases List.mem_cons.mp hp with z | z
  · rw [z]; exact .head _
  · exact .tail _ (.tail _ (.tail _ (.tail _ (.tail _ z))))
noncomputable def SideJ (L : Nat) (m : Str → Option Value) (rest : List (Addr × Obj)) (m' : Str → Option Value) (nx : List (Addr × Obj)) : Prop := m' = m ∧ ∃ o1, (∃ x, o1.data = .cell x) ∧ nx = (L + 1 + 1 + 1, o1) :: rest
theorem news_sub {h₀ h : Heap} {L : Addr} {all l : List (Addr × Obj)} (N : News h₀ L h all) (hs : ∀ p ∈ l, p ∈ all) : News h₀ L h l := fun p hp => N p (hs p hp)
theorem sub_cons {all l : List (Addr × Obj)} {a : Addr × Obj} (h : a ∈ all) (hs : ∀ p ∈ l, p ∈ all) : ∀ p ∈ a :: l, p ∈ all := fun p hp => by
  rcases List.mem_cons.mp hp with z | z
  · rw [z]; exact h
  · exact hs p z
theorem nes_cons {r : Addr} {a : Addr × Obj} {l : List (Addr × Obj)} (h : @Ne Nat a.1 r) (hs : ∀ p ∈ l, @Ne Nat p.1 r) : ∀ p ∈ a :: l, @Ne Nat p.1 r := fun p hp => by
  rcases List.mem_cons.mp hp with z | z
  · rw [z]; exact h
  · exact hs p z
theorem side_end {g h' : Heap} {L : Nat} {I ax : Addr} {oI lo o : Obj} {m : Str → Option Value} {rest all : List (Addr × Obj)} {s₁ : Shared} {Q : Flow → Shared → Prop} {tk : Nat} (F : Fr g L h' m) (N : News g L h' all) (a1 : (I, oI) ∈ all) (a2 : (ax, lo) ∈ all) (a3 : (L + 1 + 1 + 1, o) ∈ all) (a4 : ∀ p ∈ rest, p ∈ all)
    (hI : ∀ p ∈ rest, (@Ne Nat p.1 I) ∧ (@Ne Nat p.1 ax)) (h3 : (@Ne Nat (L + 1 + 1 + 1) I) ∧ (@Ne Nat (L + 1 + 1 + 1) ax)) (hd : ∃ x, o.data = .cell x) : AnyPost g L I ax oI lo (SideJ L m rest) s₁ Q .next { s₁ with heap := h', toks := tk } :=
  any_next ((L + 1 + 1 + 1, o) :: rest) F N (sub_cons a1 (sub_cons a2 (sub_cons a3 a4))) (fun p hp => by
    rcases List.mem_cons.mp hp with z | z
    · rw [z]; exact h3
    · exact hI p z) ⟨rfl, o, hd, rfl⟩
noncomputable def SideV (v : Value) : Prop := ∃ y t, v = .str y t ∧ Side4 y
theorem side_vals {t1 t2 t3 t4 : Tok} : ∀ v ∈ [Value.str (Str.ofString "left") t1, .str (Str.ofString "right") t2, .str (Str.ofString "centre") t3, .str (Str.ofString "none") t4], SideV v := fun v hv => by
  simp only [List.mem_cons, List.not_mem_nil, or_false] at hv
  rcases hv with q | q | q | q
  · exact ⟨_, _, q, .inl rfl⟩
  · exact ⟨_, _, q, .inr (.inl rfl)⟩
  · exact ⟨_, _, q, .inr (.inr (.inl rfl))⟩
  · exact ⟨_, _, q, .inr (.inr (.inr rfl))⟩
example : True := by
 (k_with "call ref" => ((fail_if_success (fail_if_success (have := @on_lw))); ((k_here; (with_reducible refine (?_ : wpAny _ _ (call (Value.ref 305) _) _ _ _)); k_dflt (refine' just_f ?kC ?kF ?kN ?km ?kd ?ki ?kl ?ky ?k0 ?k1 ?ks ?_; (case kC => exact ⟨by k_asm, by k_asm⟩); (case kF => k_asm); (case kN => k_asm); (case km => k_mem); (case kd => decide); (case ki => assumption); (case kl => assumption); (case ky => assumption); (case k0 => assumption); (case k1 => assumption); (case ks => assumption); k_whole; intro r9 zs9 n9 h9 tk9 F9 N9 e9; (try k_sweep); (try dsimp only); (try k_fold))))))
 exact True.intro
example : True := by
 (k_with "call ref" => ((fail_if_success (fail_if_success (have := @on_lw))); ((k_here; (with_reducible refine (?_ : wpAny _ _ (call (Value.ref 352) _) _ _ _)); k_dflt (refine' filled_ok ?kC ?kd ?ku ?ky ?k0 ?k1 ?ks ?_; (case kC => k_extra "ktr_rel"); (case kd => decide); (case ku => decide); (case ky => assumption); (case k0 => assumption); (case k1 => omega); (case ks => assumption); k_whole; refine Ret.one (by k_asm) (by k_asm) ?_; intro t9 h9 tk9 F9 N9; (try dsimp only); (try k_fold))))))
 exact True.intro
example : True := by
 (k_with "eval ListComp" => ((fail_if_success (fail_if_success (have := @on_lw))); ((k_here; k_dflt (refine LCg.ListComp_U (F₀ := by k_asm) (by with_unfolding_all rfl) (by decide) (by rfl) (by decide) (by rfl) ?_)))))
 exact True.intro
example : True := by
 (k_with "compareOp NotEq ref ref" => ((fail_if_success (fail_if_success (have := @on_lw))); ((k_here; (with_reducible refine (?_ : wpAny _ _ (compareOp CmpOp.NotEq (Value.ref _) (Value.ref _)) _ _ _)); k_dflt (refine' ne_same ?ka ?kb ?kc ?kd ?ke ?kg ?_; (case ka => exact News.isList (by k_asm) (by k_mem)); (case kb => exact News.isList (by k_asm) (by k_mem)); (case kc => assumption); (case kd => assumption); (case ke => assumption); (case kg => exact (show 4 + 3 + 64 < cLine by decide)); k_whole)))))
 exact True.intro
noncomputable def QInv (L : Nat) (sp : Addr) (o1 o2 o3 : Obj) (R : List (Addr × Obj)) (i : Nat) (zs : List Value) (nw : List (Addr × Obj)) : Prop :=
  ∃ vs ns n qs, nw = (sp, listOf (List.toArray vs) n) :: (L + 1 + 1 + 1, o1) :: (L + 1 + 1, o2) :: (L + 1, o3) :: R ∧ IntsAre vs ns ∧ (∀ i ∈ ns, (0 : Int) ≤ i ∧ i < 163) ∧ vs.length ≤ 1000 ∧ IntsAre zs qs ∧ (∀ q ∈ qs, (-40 : Int) ≤ q ∧ q < 120) ∧ qs.length = i
theorem quart_end {g h' : Heap} {L : Nat} {sp I C D : Addr} {o1 o2 o3 oI oC : Obj} {R : List (Addr × Obj)} {i n n' tk : Nat} {zs vs vs' : List Value} {ns' qs : List Int} {q : Int} {t : Tok} {m : Str → Option Value} {s : Shared}
    (F : Fr g L h' m) (N : News g L h' ((I, oI) :: (C, oC) :: (D, LCg.lst zs) :: (sp, listOf (List.toArray vs') n') :: (L + 1 + 1 + 1, o1) :: (L + 1 + 1, o2) :: (L + 1, o3) :: R)) (off : LCg.Off3 I C D ((sp, listOf (List.toArray vs) n) :: (L + 1 + 1 + 1, o1) :: (L + 1 + 1, o2) :: (L + 1, o3) :: R))
    (hv : IntsAre vs' ns') (hb : ∀ i ∈ ns', (0 : Int) ≤ i ∧ i < 163) (hs : vs'.length ≤ 1000) (hz : IntsAre zs qs) (hy : ∀ q ∈ qs, (-40 : Int) ≤ q ∧ q < 120) (hl : qs.length = i) (h0 : -40 ≤ q) (h1 : q < 120) :
    CompG g L m s I C D oI oC zs (fun _ => True) (fun y nw' => QInv L sp o1 o2 o3 R (i + 1) (zs ++ [y]) nw') (.int q t) { s with heap := h', toks := tk } :=
  compG _ F N (fun p hp => hp) off trivial ⟨vs', ns', n', qs ++ [_], rfl, hv, hb, hs, intsAre_snoc hz, fun y hm => by
    rcases List.mem_append.mp hm with z | z
    · exact hy y z
    · rw [List.mem_singleton.mp z]; exact ⟨h0, h1⟩, by rw [List.length_append, hl]; rfl⟩
noncomputable def LwQ (g : Heap) (L : Nat) (s s' : Shared) : Prop :=
  ∃ h tk m ql qv qs n1 pl tp, s' = { s with heap := h, toks := tk } ∧ Fr g L h m ∧ News g L h [(ql, listOf (List.toArray qv) n1)] ∧ m "quarters" = some (.ref ql) ∧ m "places" = some (.int pl tp) ∧ IntsAre qv qs ∧ (∀ q ∈ qs, (-40 : Int) ≤ q ∧ q < 120) ∧ qs.length ≤ 3 ∧ 0 ≤ pl ∧ pl < 5
noncomputable def LwF (g : Heap) (L : Nat) (s s' : Shared) : Prop :=
  ∃ h tk m ql qv qs n1 pl tp it its wt R, s' = { s with heap := h, toks := tk } ∧ Fr g L h m ∧ News g L h ((ql, listOf (List.toArray qv) n1) :: R) ∧ m "quarters" = some (.ref ql) ∧ m "places" = some (.int pl tp) ∧ m "items" = some (.ref it) ∧ m "wanted" = some (.int (wantF qs) wt) ∧
    IntsAre qv qs ∧ (∀ q ∈ qs, (-40 : Int) ≤ q ∧ q < 120) ∧ qs.length ≤ 3 ∧ 0 ≤ pl ∧ pl < 5 ∧ NewsAll g L R (fun h => h.IsList it (List.toArray its) ∧ TupsAt h its (qs.map qx))
noncomputable def FJ (g : Heap) (L : Nat) (ql it : Addr) (ol : Obj) (pl : Int) (tp : Tok) (qs : List Int) (i : Nat) (m : Str → Option Value) (nx : List (Addr × Obj)) : Prop :=
  ∃ its n2 wt R, nx = (it, listOf (List.toArray its) n2) :: (ql, ol) :: R ∧ (∀ p ∈ R, p.1 ≠ it) ∧ m "quarters" = some (.ref ql) ∧ m "places" = some (.int pl tp) ∧ m "items" = some (.ref it) ∧ m "wanted" = some (.int (wantF (qs.take i)) wt) ∧ NewsAll g L R (fun h => TupsAt h its ((qs.take i).map qx))
theorem wq0 {q : Int} (h : Int.fmod q 4 = 0) : wq q = 0 ∧ qx q = (Int.fdiv q 4, 1) := ⟨if_pos h, if_pos h⟩
theorem wq1 {q : Int} (h4 : Int.fmod q 4 ≠ 0) (h : Int.fmod q 2 = 0) : wq q = 1 ∧ qx q = (Int.fdiv q 2, 2) := ⟨(if_neg h4).trans (if_pos h), (if_neg h4).trans (if_pos h)⟩
theorem wq2 {q : Int} (h4 : Int.fmod q 4 ≠ 0) (h : Int.fmod q 2 ≠ 0) : wq q = 2 ∧ qx q = (q, 4) := ⟨(if_neg h4).trans (if_neg h), (if_neg h4).trans (if_neg h)⟩
theorem want_snoc {qs : List Int} {i : Nat} {q : Int} (h : qs[i]? = some q) : wantF (qs.take (i + 1)) = zmax (wantF (qs.take i)) (wq q) := by unfold wantF; rw [take_snoc h, List.foldl_append]; rfl
theorem f_end {g h' : Heap} {L : Nat} {ql it I D : Addr} {ol oI : Obj} {pl : Int} {tp : Tok} {qs : List Int} {i n2 tk : Nat} {m' : Str → Option Value} {its : List Value} {R : List (Addr × Obj)} {q n0 d0 c : Int} {t1 t2 wt : Tok} {s₁ : Shared} {Q : Flow → Shared → Prop}
    (hw : wq q = c ∧ qx q = (n0, d0)) (hq : qs[i]? = some q) (F : Fr g L h' m') (N : News g L h' ((D, tupObj [.int n0 t1, .int d0 t2]) :: (I, oI) :: (it, listOf ((List.toArray its).push (.ref D)) n2) :: (ql, ol) :: R)) (rR : ∀ p ∈ R, p.1 ≠ it) (mq : m' "quarters" = some (.ref ql)) (mp : m' "places" = some (.int pl tp)) (mi : m' "items" = some (.ref it))
    (mw : m' "wanted" = some (.int (zmax (wantF (qs.take i)) c) wt)) (hT : NewsAll g L R (fun h => TupsAt h its ((qs.take i).map qx))) (i1 : @Ne Nat it I) (i2 : @Ne Nat ql I) (i3 : ∀ p ∈ R, @Ne Nat p.1 I) (j1 : @Ne Nat D I) (j2 : @Ne Nat D it) :
    FvPost g L (FJ g L ql it ol pl tp qs (i + 1)) (I, oI) s₁ Q .next { s₁ with heap := h', toks := tk } := by
  rw [List.push_toArray] at N
  obtain ⟨hw1, hw2⟩ := hw
  refine fv_next ((it, listOf (List.toArray (its ++ [.ref D])) n2) :: (ql, ol) :: (D, tupObj [.int n0 t1, .int d0 t2]) :: R) F N ?_ (.tail _ (.head _)) ?_ ⟨its ++ [.ref D], n2, wt, _, rfl, nes_cons j2 rR, mq, mp, mi, ?_, fun h N' => ?_⟩
  · exact sub_cons (.tail _ (.tail _ (.head _))) (sub_cons (.tail _ (.tail _ (.tail _ (.head _)))) (sub_cons (.head _) fun p hp => .tail _ (.tail _ (.tail _ (.tail _ hp)))))
  · exact nes_cons i1 (nes_cons i2 (nes_cons j1 i3))
  · rw [mw, want_snoc hq, hw1]
  · rw [map_take_snoc _ hq, hw2]
    exact tups_snoc (hT h fun p hp => N' p (.tail _ hp)) (tup_new N' (.head _))
noncomputable def LwG (g : Heap) (L : Nat) (s s' : Shared) : Prop :=
  ∃ h tk m du ds n3, ∃ qs : List Int, ∃ pl tp it its R, s' = { s with heap := h, toks := tk } ∧ Fr g L h m ∧ News g L h ((du, listOf (List.toArray ds) n3) :: R) ∧ m "due" = some (.ref du) ∧ m "places" = some (.int pl tp) ∧ m "items" = some (.ref it) ∧
    StrsAre ds (qs.map fun q => dueT q (zmax (wantF qs) pl)) ∧ (∀ q ∈ qs, (-40 : Int) ≤ q ∧ q < 120) ∧ qs.length ≤ 3 ∧ 0 ≤ pl ∧ pl < 5 ∧ NewsAll g L R (fun h => h.IsList it (List.toArray its) ∧ TupsAt h its (qs.map qx))
noncomputable def GJ (ql it du : Addr) (ol : Obj) (R : List (Addr × Obj)) (pl : Int) (tp : Tok) (qs : List Int) (c : Int) (i : Nat) (m : Str → Option Value) (nx : List (Addr × Obj)) : Prop :=
  ∃ ds n3 tc, nx = (du, listOf (List.toArray ds) n3) :: (ql, ol) :: R ∧ m "due" = some (.ref du) ∧ m "places" = some (.int pl tp) ∧ m "items" = some (.ref it) ∧ m "count" = some (.int c tc) ∧ StrsAre ds ((qs.take i).map fun q => dueT q c)
theorem LwSt.cut0 {prog : Program} {w : World} {A : Around} {env : Env} {tail : List Stmt} {Q : Flow → Shared → Prop} {E : Value → Shared → Prop} {g : Heap} {L : Nat} {s : Shared}
    (k : ∀ h tk, ∀ m : Str → Option Value, ∀ vs ns n sp o1 o2 o3 R d1 d2, Fr g L h m → News g L h ((sp, listOf (List.toArray vs) n) :: (L + 1 + 1 + 1, o1) :: (L + 1 + 1, o2) :: (L + 1, o3) :: R) → o1.data = .cell d1 → o2.data = .cell d2 → o3.data = .cell (some (.ref sp)) → IntsAre vs ns → (∀ i ∈ ns, (0 : Int) ≤ i ∧ i < 163) → vs.length ≤ 1000 → (@Ne Nat sp (L + 1 + 1 + 1)) → (@Ne Nat sp (L + 1 + 1)) → (@Ne Nat sp (L + 1)) → (∀ p ∈ R, p.1 ≠ sp) → (∀ p ∈ R, p.1 ≠ L + 1 + 1 + 1) → (∀ p ∈ R, p.1 ≠ L + 1 + 1) → (∀ p ∈ R, p.1 ≠ L + 1) → wpAny (model prog w) A (execs tail env) Q E { s with heap := h, toks := tk }) :
    CutAt prog w A env tail Q E (LwSt g L s fun _ _ _ => True) := by
  rintro s' ⟨h, tk, m, vs, ns, n, sp, o1, o2, o3, R, rfl, F, N, ⟨d1, hd1⟩, ⟨d2, hd2⟩, hd3, hv, hb, hs, ⟨ne1, ne2, ne3⟩, r1, r2, r3, r4, _⟩
  exact k h tk m vs ns n sp o1 o2 o3 R d1 d2 F N hd1 hd2 hd3 hv hb hs ne1 ne2 ne3 r1 r2 r3 r4
theorem LwSt.cutW {prog : Program} {w : World} {A : Around} {env : Env} {tail : List Stmt} {Q : Flow → Shared → Prop} {E : Value → Shared → Prop} {g : Heap} {L : Nat} {s : Shared}
    (k : ∀ h tk, ∀ m : Str → Option Value, ∀ vs ns n sp o1 o2 o3 R d1 wl ws ys n1 wd tw, Fr g L h (fun z => if z = Str.ofString "words" then some (.ref wl) else m z) → News g L h ((sp, listOf (List.toArray vs) n) :: (L + 1 + 1 + 1, o1) :: (L + 1 + 1, o2) :: (L + 1, o3) :: R) → o1.data = .cell d1 → o3.data = .cell (some (.ref sp)) → IntsAre vs ns → (∀ i ∈ ns, (0 : Int) ≤ i ∧ i < 163) → vs.length ≤ 1000 → (@Ne Nat sp (L + 1 + 1 + 1)) → (@Ne Nat sp (L + 1 + 1)) → (@Ne Nat sp (L + 1)) → (∀ p ∈ R, p.1 ≠ sp) → (∀ p ∈ R, p.1 ≠ L + 1 + 1 + 1) → (∀ p ∈ R, p.1 ≠ L + 1 + 1) → (∀ p ∈ R, p.1 ≠ L + 1) → (wl, listOf (List.toArray ws) n1) ∈ R → StrsAre ws ys → (∀ y ∈ ys, y ∈ wordsA) → ys.length ≤ 5 → o2.data = .cell (some (.int wd tw)) → 0 ≤ wd → wd < 9 → wpAny (model prog w) A (execs tail env) Q E { s with heap := h, toks := tk }) :
    CutAt prog w A env tail Q E (LwSt g L s (LwWords g L)) := by
  rintro s' ⟨h, tk, m, vs, ns, n, sp, o1, o2, o3, R, rfl, F, N, ⟨d1, hd1⟩, _, hd3, hv, hb, hs, ⟨ne1, ne2, ne3⟩, r1, r2, r3, r4, ⟨wl, ws, ys, n1, wd, tw, mw, hwm, hz, hy, hyl, hd2, w0, w1⟩⟩
  exact k h tk m vs ns n sp o1 o2 o3 R d1 wl ws ys n1 wd tw (kst1 (m := m) mw F) N hd1 hd3 hv hb hs ne1 ne2 ne3 r1 r2 r3 r4 hwm hz hy hyl hd2 w0 w1
theorem LwQ.cut {prog : Program} {w : World} {A : Around} {env : Env} {tail : List Stmt} {Q : Flow → Shared → Prop} {E : Value → Shared → Prop} {g : Heap} {L : Nat} {s : Shared}
    (k : ∀ h tk, ∀ m : Str → Option Value, ∀ ql qv qs n1 pl tp, Fr g L h (fun z => if z = Str.ofString "quarters" then some (.ref ql) else if z = Str.ofString "places" then some (.int pl tp) else m z) → News g L h [(ql, listOf (List.toArray qv) n1)] → IntsAre qv qs → (∀ q ∈ qs, (-40 : Int) ≤ q ∧ q < 120) → qs.length ≤ 3 → 0 ≤ pl → pl < 5 → wpAny (model prog w) A (execs tail env) Q E { s with heap := h, toks := tk }) :
    CutAt prog w A env tail Q E (LwQ g L s) := by
  rintro s' ⟨h, tk, m, ql, qv, qs, n1, pl, tp, rfl, F, N, mq, mp, hz, hq, hql, p0, p4⟩
  exact k h tk m ql qv qs n1 pl tp (kst2 (m := m) ⟨mq, mp⟩ F) N hz hq hql p0 p4
theorem LwF.cut {prog : Program} {w : World} {A : Around} {env : Env} {tail : List Stmt} {Q : Flow → Shared → Prop} {E : Value → Shared → Prop} {g : Heap} {L : Nat} {s : Shared}
    (k : ∀ h tk, ∀ m : Str → Option Value, ∀ ql qv qs n1 pl tp it its wt R, Fr g L h (fun z => if z = Str.ofString "quarters" then some (.ref ql) else if z = Str.ofString "places" then some (.int pl tp) else if z = Str.ofString "items" then some (.ref it) else if z = Str.ofString "wanted" then some (.int (wantF qs) wt) else m z) → News g L h ((ql, listOf (List.toArray qv) n1) :: R) → IntsAre qv qs → (∀ q ∈ qs, (-40 : Int) ≤ q ∧ q < 120) → qs.length ≤ 3 → 0 ≤ pl → pl < 5 → NewsAll g L R (fun h => h.IsList it (List.toArray its) ∧ TupsAt h its (qs.map qx)) → wpAny (model prog w) A (execs tail env) Q E { s with heap := h, toks := tk }) :
    CutAt prog w A env tail Q E (LwF g L s) := by
  rintro s' ⟨h, tk, m, ql, qv, qs, n1, pl, tp, it, its, wt, R, rfl, F, N, mq, mp, mi, mw, hz, hq, hql, p0, p4, hT⟩
  exact k h tk m ql qv qs n1 pl tp it its wt R (kst4 (m := m) ⟨mq, mp, mi, mw⟩ F) N hz hq hql p0 p4 hT
theorem LwG.cut {prog : Program} {w : World} {A : Around} {env : Env} {tail : List Stmt} {Q : Flow → Shared → Prop} {E : Value → Shared → Prop} {g : Heap} {L : Nat} {s : Shared}
    (k : ∀ h tk, ∀ m : Str → Option Value, ∀ du ds n3, ∀ qs : List Int, ∀ pl tp it its R, Fr g L h (fun z => if z = Str.ofString "due" then some (.ref du) else if z = Str.ofString "places" then some (.int pl tp) else if z = Str.ofString "items" then some (.ref it) else m z) → News g L h ((du, listOf (List.toArray ds) n3) :: R) → StrsAre ds (qs.map fun q => dueT q (zmax (wantF qs) pl)) → (∀ q ∈ qs, (-40 : Int) ≤ q ∧ q < 120) → qs.length ≤ 3 → 0 ≤ pl → pl < 5 → NewsAll g L R (fun h => h.IsList it (List.toArray its) ∧ TupsAt h its (qs.map qx)) → wpAny (model prog w) A (execs tail env) Q E { s with heap := h, toks := tk }) :
    CutAt prog w A env tail Q E (LwG g L s) := by
  rintro s' ⟨h, tk, m, du, ds, n3, qs, pl, tp, it, its, R, rfl, F, N, md, mp, mi, hds, hq, hql, p0, p4, hT⟩
  exact k h tk m du ds n3 qs pl tp it its R (kst3 (m := m) ⟨md, mp, mi⟩ F) N hds hq hql p0 p4 hT
theorem GJ.use {P : Prop} {ql it du I : Addr} {ol oI : Obj} {R : List (Addr × Obj)} {pl : Int} {tp : Tok} {qs : List Int} {c : Int} {i : Nat} {m : Str → Option Value} {nx : List (Addr × Obj)} {g h : Heap} {L : Nat} {x0 : Str} {v0 : Option Value} (H : GJ ql it du ol R pl tp qs c i m nx) (hI : ∀ p ∈ nx, @Ne Nat p.1 I) (F : Fr g L h (fun z => if z = x0 then v0 else m z)) (N : News g L h ((I, oI) :: nx))
    (k : ∀ ds n3 tc, Fr g L h (fun z => if z = x0 then v0 else if z = Str.ofString "due" then some (.ref du) else if z = Str.ofString "places" then some (.int pl tp) else if z = Str.ofString "items" then some (.ref it) else if z = Str.ofString "count" then some (.int c tc) else m z) → News g L h ((I, oI) :: (du, listOf (List.toArray ds) n3) :: (ql, ol) :: R) → StrsAre ds ((qs.take i).map fun q => dueT q c) → (@Ne Nat du I) → (@Ne Nat ql I) → (∀ p ∈ R, @Ne Nat p.1 I) → P) : P := by
  obtain ⟨ds, n3, tc, rfl, md, mp, mi, mc, hds⟩ := H
  simp only [List.forall_mem_cons] at hI
  exact k ds n3 tc (kstu4 (m := m) ⟨md, mp, mi, mc⟩ F) N hds hI.1 hI.2.1 hI.2.2
theorem GJ.fin {P : Prop} {ql it du : Addr} {ol : Obj} {R : List (Addr × Obj)} {pl : Int} {tp : Tok} {qs : List Int} {c : Int} {i : Nat} {m : Str → Option Value} {nx : List (Addr × Obj)} {g h : Heap} {L : Nat} (H : GJ ql it du ol R pl tp qs c i m nx) (N : News g L h nx)
    (k : ∀ ds n3, News g L h ((du, listOf (List.toArray ds) n3) :: (ql, ol) :: R) → m "due" = some (.ref du) → m "places" = some (.int pl tp) → m "items" = some (.ref it) → StrsAre ds ((qs.take i).map fun q => dueT q c) → P) : P := by
  obtain ⟨ds, n3, tc, rfl, md, mp, mi, mc, hds⟩ := H
  exact k ds n3 N md mp mi hds
theorem FJ.use {P : Prop} {g h : Heap} {L : Nat} {ql it I : Addr} {ol oI : Obj} {pl : Int} {tp : Tok} {qs : List Int} {i : Nat} {m : Str → Option Value} {nx : List (Addr × Obj)} {x0 : Str} {v0 : Option Value} (H : FJ g L ql it ol pl tp qs i m nx) (hI : ∀ p ∈ nx, @Ne Nat p.1 I) (F : Fr g L h (fun z => if z = x0 then v0 else m z)) (N : News g L h ((I, oI) :: nx))
    (k : ∀ its n2 wt R, Fr g L h (fun z => if z = x0 then v0 else if z = Str.ofString "quarters" then some (.ref ql) else if z = Str.ofString "places" then some (.int pl tp) else if z = Str.ofString "items" then some (.ref it) else if z = Str.ofString "wanted" then some (.int (wantF (qs.take i)) wt) else m z) → News g L h ((I, oI) :: (it, listOf (List.toArray its) n2) :: (ql, ol) :: R) → (∀ p ∈ R, p.1 ≠ it) → NewsAll g L R (fun h => TupsAt h its ((qs.take i).map qx)) → (@Ne Nat it I) → (@Ne Nat ql I) → (∀ p ∈ R, @Ne Nat p.1 I) → P) : P := by
  obtain ⟨its, n2, wt, R, rfl, rR, mq, mp, mi, mw, hT⟩ := H
  simp only [List.forall_mem_cons] at hI
  exact k its n2 wt R (kstu4 (m := m) ⟨mq, mp, mi, mw⟩ F) N rR hT hI.1 hI.2.1 hI.2.2
theorem FJ.fin {P : Prop} {g h : Heap} {L : Nat} {ql it : Addr} {ol : Obj} {pl : Int} {tp : Tok} {qs : List Int} {i : Nat} {m : Str → Option Value} {nx : List (Addr × Obj)} (H : FJ g L ql it ol pl tp qs i m nx) (N : News g L h nx)
    (k : ∀ its n2 wt R, News g L h ((it, listOf (List.toArray its) n2) :: (ql, ol) :: R) → (∀ p ∈ R, p.1 ≠ it) → m "quarters" = some (.ref ql) → m "places" = some (.int pl tp) → m "items" = some (.ref it) → m "wanted" = some (.int (wantF (qs.take i)) wt) → NewsAll g L R (fun h => TupsAt h its ((qs.take i).map qx)) → P) : P := by
  obtain ⟨its, n2, wt, R, rfl, rR, mq, mp, mi, mw, hT⟩ := H
  exact k its n2 wt R N rR mq mp mi mw hT
theorem QInv.use {P : Prop} {L : Nat} {sp : Addr} {o1 o2 o3 : Obj} {R : List (Addr × Obj)} {i : Nat} {zs : List Value} {nw : List (Addr × Obj)} {g h : Heap} {L' : Addr} {a b c : Addr × Obj} {I C D : Addr} (H : QInv L sp o1 o2 o3 R i zs nw) (N : News g L' h (a :: b :: c :: nw)) (off : LCg.Off3 I C D nw)
    (k : ∀ vs ns n qs, IntsAre vs ns → (∀ i ∈ ns, (0 : Int) ≤ i ∧ i < 163) → vs.length ≤ 1000 → IntsAre zs qs → (∀ q ∈ qs, (-40 : Int) ≤ q ∧ q < 120) → qs.length = i →  News g L' h (a :: b :: c :: (sp, listOf (List.toArray vs) n) :: (L + 1 + 1 + 1, o1) :: (L + 1 + 1, o2) :: (L + 1, o3) :: R) → LCg.Off3 I C D ((sp, listOf (List.toArray vs) n) :: (L + 1 + 1 + 1, o1) :: (L + 1 + 1, o2) :: (L + 1, o3) :: R) → P) : P := by
  obtain ⟨vs, ns, n, qs, rfl, hv, hb, hs, hz, hy, hyl⟩ := H
  exact k vs ns n qs hv hb hs hz hy hyl N off
theorem QInv.fin {P : List (Addr × Obj) → Prop} {L : Nat} {sp : Addr} {o1 o2 o3 : Obj} {R : List (Addr × Obj)} {i : Nat} {zs : List Value} {nw : List (Addr × Obj)} (H : QInv L sp o1 o2 o3 R i zs nw) (k : ∀ vs ns n qs, IntsAre vs ns → (∀ i ∈ ns, (0 : Int) ≤ i ∧ i < 163) → vs.length ≤ 1000 → IntsAre zs qs → (∀ q ∈ qs, (-40 : Int) ≤ q ∧ q < 120) → qs.length = i → P ((sp, listOf (List.toArray vs) n) :: (L + 1 + 1 + 1, o1) :: (L + 1 + 1, o2) :: (L + 1, o3) :: R)) : P nw := by
  obtain ⟨vs, ns, n, qs, rfl, hv, hb, hs, hz, hy, hyl⟩ := H
  exact k vs ns n qs hv hb hs hz hy hyl
theorem WordInv.use {P : Prop} {L : Nat} {sp : Addr} {o1 o2 o3 : Obj} {R : List (Addr × Obj)} {i : Nat} {zs : List Value} {nw : List (Addr × Obj)} {g h : Heap} {L' : Addr} {a b c : Addr × Obj} {I C D : Addr} (H : WordInv L sp o1 o2 o3 R i zs nw) (N : News g L' h (a :: b :: c :: nw)) (off : LCg.Off3 I C D nw)
    (k : ∀ vs ns n ys, IntsAre vs ns → (∀ i ∈ ns, (0 : Int) ≤ i ∧ i < 163) → vs.length ≤ 1000 → StrsAre zs ys → (∀ y ∈ ys, y ∈ wordsA) → ys.length = i →  News g L' h (a :: b :: c :: (sp, listOf (List.toArray vs) n) :: (L + 1 + 1 + 1, o1) :: (L + 1 + 1, o2) :: (L + 1, o3) :: R) → LCg.Off3 I C D ((sp, listOf (List.toArray vs) n) :: (L + 1 + 1 + 1, o1) :: (L + 1 + 1, o2) :: (L + 1, o3) :: R) → P) : P := by
  obtain ⟨vs, ns, n, qs, rfl, hv, hb, hs, hz, hy, hyl⟩ := H
  exact k vs ns n qs hv hb hs hz hy hyl N off
theorem WordInv.fin {P : List (Addr × Obj) → Prop} {L : Nat} {sp : Addr} {o1 o2 o3 : Obj} {R : List (Addr × Obj)} {i : Nat} {zs : List Value} {nw : List (Addr × Obj)} (H : WordInv L sp o1 o2 o3 R i zs nw) (k : ∀ vs ns n ys, IntsAre vs ns → (∀ i ∈ ns, (0 : Int) ≤ i ∧ i < 163) → vs.length ≤ 1000 → StrsAre zs ys → (∀ y ∈ ys, y ∈ wordsA) → ys.length = i → P ((sp, listOf (List.toArray vs) n) :: (L + 1 + 1 + 1, o1) :: (L + 1 + 1, o2) :: (L + 1, o3) :: R)) : P nw := by
  obtain ⟨vs, ns, n, ys, rfl, hv, hb, hs, hz, hy, hyl⟩ := H
  exact k vs ns n ys hv hb hs hz hy hyl
theorem SideV.use {prog : Program} {w : World} {A : Around} {env : Env} {target : Expr} {K : Unit → Shared → Prop} {E : Value → Shared → Prop} {s : Shared} {v : Value} (H : SideV v) (k : ∀ y t, Side4 y → wpAny (model prog w) A (assign target env (.str y t)) K E s) : wpAny (model prog w) A (assign target env v) K E s := by
  obtain ⟨y, t, rfl, h⟩ := H
  exact k y t h
theorem SideJ.use {P : Prop} {g h : Heap} {L' : Addr} {L : Nat} {I ax : Addr} {oI lo : Obj} {m m' : Str → Option Value} {rest nx : List (Addr × Obj)} (H : SideJ L m rest m' nx) (hI : ∀ p ∈ nx, (@Ne Nat p.1 I) ∧ (@Ne Nat p.1 ax)) (F : Fr g L' h m') (N : News g L' h ((I, oI) :: (ax, lo) :: nx))
    (k : ∀ o1 x1, o1.data = .cell x1 → (∀ p ∈ (L + 1 + 1 + 1, o1) :: rest, (@Ne Nat p.1 I) ∧ (@Ne Nat p.1 ax)) → Fr g L' h m → News g L' h ((I, oI) :: (ax, lo) :: (L + 1 + 1 + 1, o1) :: rest) → P) : P := by
  obtain ⟨rfl, o1, ⟨x1, hx1⟩, rfl⟩ := H
  exact k o1 x1 hx1 hI F N
theorem SideJ.fin {P : Prop} {g h : Heap} {L' : Addr} {L : Nat} {m m' : Str → Option Value} {rest nx : List (Addr × Obj)} (H : SideJ L m rest m' nx) (F : Fr g L' h m') (N : News g L' h nx) (k : ∀ o1 x1, o1.data = .cell x1 → Fr g L' h m → News g L' h ((L + 1 + 1 + 1, o1) :: rest) → P) : P := by
  obtain ⟨rfl, o1, ⟨x1, hx1⟩, rfl⟩ := H
  exact k o1 x1 hx1 F N
theorem ints_pick {P : Prop} {g h : Heap} {L' : Addr} {m : Str → Option Value} {x : Str} {vs : List Value} {ns : List Int} {i : Nat} {v : Value} (H : IntsAre vs ns) (hv : vs[i]? = some v) (F : Fr g L' h (fun z => if z = x then some v else m z)) (k : ∀ q t, ns[i]? = some q → Fr g L' h (fun z => if z = x then some (.int q t) else m z) → P) : P := by
  obtain ⟨q, hq, t, rfl⟩ := intsAre_get H hv
  exact k q t hq F
theorem strs_pick {P : Prop} {m : Str → Option Value} {x : Str} {vs : List Value} {ys : List Str} {i : Nat} {v : Value} (H : StrsAre vs ys) (hv : vs[i]? = some v) (hm : m x = some v) (k : ∀ y t, ys[i]? = some y → m x = some (.str y t) → P) : P := by
  obtain ⟨y, t, hy, rfl⟩ := strsAre_get H hv
  exact k y t hy hm
theorem lwQ {g h : Heap} {L : Nat} {s : Shared} {tk : Nat} {m : Str → Option Value} {ql : Addr} {qv : List Value} {qs : List Int} {n1 : Nat} {pl : Int} {tp : Tok} (F : Fr g L h m) (N : News g L h [(ql, listOf (List.toArray qv) n1)]) (mq : m "quarters" = some (.ref ql)) (mp : m "places" = some (.int pl tp)) (hz : IntsAre qv qs) (hq : ∀ q ∈ qs, (-40 : Int) ≤ q ∧ q < 120) (hql : qs.length ≤ 3) (p0 : 0 ≤ pl) (p4 : pl < 5) : LwQ g L s { s with heap := h, toks := tk } := ⟨h, tk, m, ql, qv, qs, n1, pl, tp, rfl, F, N, mq, mp, hz, hq, hql, p0, p4⟩
theorem lwF {g h : Heap} {L : Nat} {s : Shared} {tk : Nat} {m : Str → Option Value} {ql it : Addr} {qv its : List Value} {qs : List Int} {n1 : Nat} {pl : Int} {tp wt : Tok} {R : List (Addr × Obj)} (F : Fr g L h m) (N : News g L h ((ql, listOf (List.toArray qv) n1) :: R)) (mq : m "quarters" = some (.ref ql)) (mp : m "places" = some (.int pl tp)) (mi : m "items" = some (.ref it)) (mw : m "wanted" = some (.int (wantF qs) wt)) (hz : IntsAre qv qs) (hq : ∀ q ∈ qs, (-40 : Int) ≤ q ∧ q < 120) (hql : qs.length ≤ 3) (p0 : 0 ≤ pl) (p4 : pl < 5) (hT : NewsAll g L R (fun h => h.IsList it (List.toArray its) ∧ TupsAt h its (qs.map qx))) : LwF g L s { s with heap := h, toks := tk } := ⟨h, tk, m, ql, qv, qs, n1, pl, tp, it, its, wt, R, rfl, F, N, mq, mp, mi, mw, hz, hq, hql, p0, p4, hT⟩
theorem lwG {g h : Heap} {L : Nat} {s : Shared} {tk : Nat} {m : Str → Option Value} {du it : Addr} {ds its : List Value} {qs : List Int} {n3 : Nat} {pl : Int} {tp : Tok} {R : List (Addr × Obj)} (F : Fr g L h m) (N : News g L h ((du, listOf (List.toArray ds) n3) :: R)) (md : m "due" = some (.ref du)) (mp : m "places" = some (.int pl tp)) (mi : m "items" = some (.ref it)) (hds : StrsAre ds (qs.map fun q => dueT q (zmax (wantF qs) pl))) (hq : ∀ q ∈ qs, (-40 : Int) ≤ q ∧ q < 120) (hql : qs.length ≤ 3) (p0 : 0 ≤ pl) (p4 : pl < 5) (hT : NewsAll g L R (fun h => h.IsList it (List.toArray its) ∧ TupsAt h its (qs.map qx))) : LwG g L s { s with heap := h, toks := tk } := ⟨h, tk, m, du, ds, n3, qs, pl, tp, it, its, R, rfl, F, N, md, mp, mi, hds, hq, hql, p0, p4, hT⟩
theorem log_q {q : Int} (h0 : -40 ≤ q) (h1 : q < 120) : (Int.fdiv (zabs q) 4).natAbs.log2 < 1920 := log_mid (by
  rw [zabs_eq, Int.fdiv_eq_ediv_of_nonneg _ (by decide)]
  have : q.natAbs < 200 := by omega
  have e : (2 : Nat) ^ 128 = 340282366920938463463374607431768211456 := by decide
  omega)
theorem str_q {prog : Program} {w : World} {A : Around} {E : Value → Shared → Prop} {s : Shared} {q : Int} {t : Tok} {Q : Value → Shared → Prop} (h0 : -40 ≤ q) (h1 : q < 120) (h : ∀ x t' tk, x.length ≤ 2000 → x = Str.ofString (toString (Int.fdiv (zabs q) 4)) → Q (.str x t') { s with toks := tk }) :
    wpAny (model prog w) A (call (.type "str") [.int (Int.fdiv (zabs q) 4) t]) Q E s := by
  refine P.str_of_int (log_q h0 h1) ?_
  refine h _ _ _ (toString_len ?_) rfl
  rw [zabs_eq, Int.fdiv_eq_ediv_of_nonneg _ (by decide)]
  omega
example : True := by
 (k_with "call type:str" => ((fail_if_success (fail_if_success (have := @on_lw))); ((k_here; k_dflt (refine' str_q ?ka ?kb ?_; (case ka => assumption); (case kb => assumption); k_whole; intro x9 t9 tk9 hx9 hxe9; (try dsimp only); (try k_fold))))))
 exact True.intro
theorem pick_q {prog : Program} {w : World} {A : Around} {E : Value → Shared → Prop} {s : Shared} {value slice : Expr} {l : Addr} {k : Int} {u t1 t2 t3 t4 : Tok} {Q : Value → Shared → Prop} (hl : s.heap.IsList l [Value.str (Str.ofString "0000") t1, .str (Str.ofString "2500") t2, .str (Str.ofString "5000") t3, .str (Str.ofString "7500") t4].toArray) (h0 : 0 ≤ k) (hk : k < 4)
    (h : ∀ x t, x.length ≤ 4 → x = qTab.getD k.toNat (Str.ofString "") → Q (.str x t) s)
    (hs : subscripted slice false (.ref l) (.int k u) = operate [.ref l, .int k u] (getItem (.ref l) (.int k u)) := by with_unfolding_all rfl) :
    wpAny (model prog w) A (subscriptTail value slice (.ref l) (.int k u)) Q E s := by
  have h4 : k = 0 ∨ k = 1 ∨ k = 2 ∨ k = 3 := by omega
  rcases h4 with q | q | q | q <;> subst q
  · exact tail_any hl.typeIs slot_list_getitem.lookup (wpAny_getItem_list hl h0 (by decide) (x := .str (Str.ofString "0000") t1) rfl (h _ _ (by decide +kernel) rfl)) hs
  · exact tail_any hl.typeIs slot_list_getitem.lookup (wpAny_getItem_list hl h0 (by decide) (x := .str (Str.ofString "2500") t2) rfl (h _ _ (by decide +kernel) rfl)) hs
  · exact tail_any hl.typeIs slot_list_getitem.lookup (wpAny_getItem_list hl h0 (by decide) (x := .str (Str.ofString "5000") t3) rfl (h _ _ (by decide +kernel) rfl)) hs
  · exact tail_any hl.typeIs slot_list_getitem.lookup (wpAny_getItem_list hl h0 (by decide) (x := .str (Str.ofString "7500") t4) rfl (h _ _ (by decide +kernel) rfl)) hs
example : True := by
 (k_with "subscriptTail" => ((fail_if_success (fail_if_success (have := @on_lw))); ((k_here; (with_reducible refine (?_ : wpAny _ _ (subscriptTail _ _ (Value.ref _) (Value.int _ _)) _ _ _)); k_dflt (refine' pick_q ?ka ?kb ?kc ?_ ?kf; (case ka => exact News.isList (by k_asm) (by k_mem)); (case kb => exact Int.fmod_nonneg_of_pos _ (by decide)); (case kc => exact Int.fmod_lt_of_pos _ (by decide)); (case kf => with_unfolding_all rfl); k_whole; intro x9 t9 hx9 hxe9; (try k_sweep); (try dsimp only); (try k_fold))))))
 exact True.intro
theorem due_pp {q c : Int} {x z : Str} (h1 : q < 0) (h2 : 0 < c) (hx : x = Str.ofString (toString (Int.fdiv (zabs q) 4))) (hz : z = qTab.getD (Int.fmod (zabs q) 4).toNat (Str.ofString "")) : Str.ofString "-" ++ (x ++ (Str.ofString "." ++ Txt.slice z none (some c))) = dueT q c := by
  unfold dueT dueB; rw [if_pos h1, if_pos h2, hx, hz]
theorem due_np {q c : Int} {x z : Str} (h1 : ¬ q < 0) (h2 : 0 < c) (hx : x = Str.ofString (toString (Int.fdiv (zabs q) 4))) (hz : z = qTab.getD (Int.fmod (zabs q) 4).toNat (Str.ofString "")) : Str.ofString "" ++ (x ++ (Str.ofString "." ++ Txt.slice z none (some c))) = dueT q c := by
  unfold dueT dueB; rw [if_neg h1, if_pos h2, hx, hz]
theorem due_pn {q c : Int} {x : Str} (h1 : q < 0) (h2 : ¬ 0 < c) (hx : x = Str.ofString (toString (Int.fdiv (zabs q) 4))) : Str.ofString "-" ++ x = dueT q c := by
  unfold dueT dueB; rw [if_pos h1, if_neg h2, hx]
theorem due_nn {q c : Int} {x : Str} (h1 : ¬ q < 0) (h2 : ¬ 0 < c) (hx : x = Str.ofString (toString (Int.fdiv (zabs q) 4))) : Str.ofString "" ++ x = dueT q c := by
  unfold dueT dueB; rw [if_neg h1, if_neg h2, hx]
theorem g_end {g h' : Heap} {L : Nat} {ql it du I : Addr} {ol oI : Obj} {R news : List (Addr × Obj)} {pl c : Int} {tp tc ty : Tok} {qs : List Int} {i n3 tk : Nat} {m' : Str → Option Value} {ds : List Value} {q : Int} {y : Str} {s₁ : Shared} {Q : Flow → Shared → Prop}
    (hy : y = dueT q c) (hq : qs[i]? = some q) (F : Fr g L h' m') (N : News g L h' news) (hm : (du, listOf ((List.toArray ds).push (.str y ty)) n3) ∈ news) (hI : (I, oI) ∈ news) (hl : (ql, ol) ∈ news) (hR : ∀ p ∈ R, p ∈ news)
    (md : m' "due" = some (.ref du)) (mp : m' "places" = some (.int pl tp)) (mi : m' "items" = some (.ref it)) (mc : m' "count" = some (.int c tc)) (hds : StrsAre ds ((qs.take i).map fun q => dueT q c)) (i1 : @Ne Nat du I) (i2 : @Ne Nat ql I) (i3 : ∀ p ∈ R, @Ne Nat p.1 I) :
    FvPost g L (GJ ql it du ol R pl tp qs c (i + 1)) (I, oI) s₁ Q .next { s₁ with heap := h', toks := tk } := by
  rw [List.push_toArray] at hm
  refine fv_next ((du, listOf (List.toArray (ds ++ [.str y ty])) n3) :: (ql, ol) :: R) F N (sub_cons hm (sub_cons hl hR)) hI (nes_cons i1 (nes_cons i2 i3)) ⟨_, n3, tc, rfl, md, mp, mi, mc, ?_⟩
  rw [map_take_snoc _ hq, ← hy]
  exact strsAre_snoc hds
theorem due_same {qs : List Int} {pl : Int} {zs : List Value} (hq : ∀ q ∈ qs, (-40 : Int) ≤ q ∧ q < 120) (p0 : 0 ≤ pl) (p4 : pl < 5) (e : StrsAre zs ((qs.map qx).map fun x => fmX (some x) (true, zmax (wantF qs) pl))) : StrsAre zs (qs.map fun q => dueT q (zmax (wantF qs) pl)) := by
  rw [List.map_map] at e
  have h : (qs.map ((fun x => fmX (some x) (true, zmax (wantF qs) pl)) ∘ qx)) = qs.map fun q => dueT q (zmax (wantF qs) pl) := map_eq_of fun q hm => by
    obtain ⟨a, b, c⟩ := want_ok qs
    have := @zmax_le (wantF qs) pl
    have := zmax_or (wantF qs) pl
    have := c q hm
    exact (d_ok (hq q hm).1 (hq q hm).2 (by omega) (by omega) (by omega)).1
  rwa [h] at e
theorem due_strs {qs : List Int} {pl : Int} (hq : ∀ q ∈ qs, (-40 : Int) ≤ q ∧ q < 120) (p0 : 0 ≤ pl) (p4 : pl < 5) : ∀ y ∈ qs.map (fun q => dueT q (zmax (wantF qs) pl)), PyData.strOk y = true := fun y hy => by
  obtain ⟨q, hm, rfl⟩ := List.mem_map.mp hy
  obtain ⟨a, b, c⟩ := want_ok qs
  have := @zmax_le (wantF qs) pl
  have := zmax_or (wantF qs) pl
  have := c q hm
  exact (d_ok (hq q hm).1 (hq q hm).2 (by omega) (by omega) (by omega)).2
example : True := by
 (k_with "call ref" => ((fail_if_success (fail_if_success (have := @on_lw))); ((k_here; (with_reducible refine (?_ : wpAny _ _ (call (Value.ref 300) _) _ _ _)); k_dflt (refine' number_texts_ok ?kC ?kd ?ku ?kv ?kl ?ki ?ks ?kz ?kc ?k0 ?k8 ?n0 ?n8 ?_; (case kC => k_extra "ktr_rel"); (case kd => decide); (case ku => decide); (case kv => exact vec_in (by k_asm) (by k_mem) (by k_mem)); (case kl => exact (NewsAll.at hT (by k_asm) (by k_extra "kat_tups")).1); (case ki => exact (NewsAll.at hT (by k_asm) (by k_extra "kat_tups")).2); (case ks => exact hil); (case kz => exact hfr); (case kc => exact hcf); (case k0 => exact wa); (case k8 => omega); (case n0 => exact p0); (case n8 => omega); k_whole; intro v9 h9 tk9 keep9 e9; obtain ⟨r9, zs9, n9, q9, n90, s9, e93⟩ := e9; subst q9; have e94 := due_same hq p0 p4 e93; have N9 := news_cons (by k_asm) (by k_asm) keep9 n90 s9; (try simp only [List.nil_append, List.cons_append, List.append_nil] at N9); have F9 := fr_on (by k_asm) keep9; clear keep9 n90 s9; (try dsimp only); (try k_fold))))))
 exact True.intro
theorem eq_same {prog : Program} {w : World} {A : Around} {E : Value → Shared → Prop} {s : Shared} {a b : Addr} {xs ys : List Value} {ns : List Str} {Q : Value → Shared → Prop}
    (ha : s.heap.IsList a xs.toArray) (hb : s.heap.IsList b ys.toArray) (hi : StrsAre xs ns) (hj : StrsAre ys ns) (h1 : ∀ y ∈ ns, PyData.strOk y = true) (hu : A.units + 64 < cLine) (h : Q (.bool true) s) :
    wpAny (model prog w) A (compareOp .Eq (.ref a) (.ref b)) Q E s :=
  eq_dataH_same (reads_newData ha (es_carried hi)) (reads_newData hb (es_carried hj)) (es_shaped h1) (es_shaped h1) hu (SeqAt.noMix_of_shape (.list .str) rfl _ _ (list_map_has fun _ => rfl) (list_map_has fun _ => rfl)) (by rw [PySem.Spec.same, es_sameAll]; simpa using h)
example : True := by
 (k_with "compareOp Eq ref ref" => ((fail_if_success (fail_if_success (have := @on_lw))); ((k_here; (with_reducible refine (?_ : wpAny _ _ (compareOp CmpOp.Eq (Value.ref _) (Value.ref _)) _ _ _)); k_dflt (refine' eq_same ?ka ?kb ?kc ?kd ?ke ?kg ?_; (case ka => exact News.isList (by k_asm) (by k_mem)); (case kb => exact News.isList (by k_asm) (by k_mem)); (case kc => assumption); (case kd => assumption); (case ke => assumption); (case kg => exact (show 4 + 3 + 64 < cLine by decide)); k_whole)))))
 exact True.intro
theorem law_holds.tw5389484754426515990 : True := True.intro
theorem law_holds.tw14784967361642892906 : True := True.intro
theorem law_holds.tw7674457499096017732 : True := True.intro
theorem law_holds.tw15759456685926392790 : True := True.intro
theorem law_holds.tw11266693952117679516 : True := True.intro
theorem law_holds.tw5104574971839476226 : True := True.intro
theorem law_holds.tw6700112342534006690 : True := True.intro
theorem law_holds.tw10333825380429755871 : True := True.intro
theorem law_holds.tw3003183132222720875 : True := True.intro
theorem law_holds.tw10156154551059412043 : True := True.intro
theorem law_holds.tw10209896874158180831 : True := True.intro
theorem law_holds.tw18221428039690301666 : True := True.intro
theorem law_holds.tw11881114122080957857 : True := True.intro
theorem law_holds.tw10362271348294423435 : True := True.intro
theorem law_holds.tw1685627985566243432 : True := True.intro
theorem law_holds.tw17028624522117568015 : True := True.intro
theorem law_holds.tw18430954121086234272 : True := True.intro
theorem law_holds.tw6969255593111687635 : True := True.intro
theorem law_holds.tw455179833554555240 : True := True.intro
theorem law_holds.tw14621789764659903892 : True := True.intro
theorem law_holds.tw10829313771624777081 : True := True.intro
theorem law_holds.tw15472126771306010800 : True := True.intro
theorem law_holds.tw14160533322030094474 : True := True.intro
theorem law_holds.tw5769158387606399586 : True := True.intro
theorem law_holds.tw12835091436910803158 : True := True.intro
theorem law_holds.tw11289095316329951393 : True := True.intro
theorem law_holds.tw12889673554181485818 : True := True.intro
theorem law_holds.tw1414043511812021011 : True := True.intro
theorem law_holds.tw10028117763298573888 : True := True.intro
theorem law_holds.tw11347954631545130290 : True := True.intro
theorem law_holds.tw14872900085578418628 : True := True.intro
theorem law_holds.tw14127470889774432640 : True := True.intro
theorem law_holds.tw16947615914383616782 : True := True.intro
theorem law_holds.tw2102315897755806987 : True := True.intro
theorem law_holds.tw5364902710198789758 : True := True.intro
theorem law_holds.tw8652346329174877282 : True := True.intro
theorem law_holds.tw16381176275627223697 : True := True.intro
theorem law_holds.tw2887050238494874643 : True := True.intro
theorem law_holds.tw3756957479349018193 : True := True.intro
theorem law_holds.tw11484002064277903863 : True := True.intro
theorem law_holds.tw10812634152524527747 : True := True.intro
theorem law_holds.tw4781243967656130014 : True := True.intro
theorem law_holds.tw445335354869643106 : True := True.intro
theorem law_holds.tw9843604407834444796 : True := True.intro
theorem law_holds.tw15448297888555860652 : True := True.intro
theorem law_holds.tw745255978533919091 : True := True.intro
theorem law_holds.tw15883345262158282383 : True := True.intro
theorem law_holds.tw14326059299131336239 : True := True.intro
theorem law_holds.tw16098122237329998606 : True := True.intro
theorem law_holds.tw14497384708736915567 : True := True.intro
theorem law_holds.tw10368410895845634921 : True := True.intro
theorem law_holds.tw1670043908289496885 : True := True.intro
theorem law_holds.tw7472407996622490835 : True := True.intro
theorem law_holds.tw1909877003179415225 : True := True.intro
theorem law_holds.tw5506821171919863439 : True := True.intro
theorem law_holds.tw2643271747718453845 : True := True.intro
theorem law_holds.tw3049941959672503198 : True := True.intro
theorem law_holds.tw14925382992726071281 : True := True.intro
theorem law_holds.tw6765152471904792315 : True := True.intro
theorem law_holds.tw3035144380315620824 : True := True.intro
theorem law_holds.tw7120836010843673076 : True := True.intro
theorem law_holds.tw6629495429873386292 : True := True.intro
theorem law_holds.tw1689763614830377041 : True := True.intro
theorem law_holds.tw9606376775287448836 : True := True.intro
theorem law_holds.tw4818577856007422655 : True := True.intro
theorem law_holds.tw3329433664329059716 : True := True.intro
theorem law_holds.tw13397297893571687751 : True := True.intro
theorem law_holds.tw9207643191828677137 : True := True.intro
theorem law_holds.tw8417186165934385351 : True := True.intro
theorem law_holds.tw11690447701083486646 : True := True.intro
theorem law_holds.tw13780023080261437657 : True := True.intro
theorem law_holds.tw12456547296908542839 : True := True.intro
theorem law_holds.tw11924911360389889469 : True := True.intro
theorem law_holds.tw17713402740875732926 : True := True.intro
theorem law_holds.tw16273140198857503625 : True := True.intro
theorem law_holds.tw1341266762083198811 : True := True.intro
theorem law_holds.tw14904137174637212347 : True := True.intro
theorem law_holds.tw15694993059591697976 : True := True.intro
theorem law_holds.tw10817052189556005596 : True := True.intro
theorem law_holds.tw602461330855297101 : True := True.intro
theorem law_holds.tw16009327648451700120 : True := True.intro
theorem law_holds.tw4370086069003782432 : True := True.intro
theorem law_holds.tw15544829507116839252 : True := True.intro
theorem law_holds.tw18388893480867403737 : True := True.intro
theorem law_holds.tw1035469204868569938 : True := True.intro
theorem law_holds.tw16614716721108272449 : True := True.intro
theorem law_holds.tw11100686419730198450 : True := True.intro
theorem law_holds.tw14774650325386425613 : True := True.intro
theorem law_holds.tw123295346585929383 : True := True.intro
theorem law_holds.tw16563099163409725306 : True := True.intro
theorem law_holds.tw7221428835167493151 : True := True.intro
theorem law_holds.tw13882729330811710610 : True := True.intro
theorem law_holds.tw3850334171643177529 : True := True.intro
theorem law_holds.tw1385162719727133579 : True := True.intro
theorem law_holds.tw3756308257209627903 : True := True.intro
theorem law_holds.tw2322801206320994539 : True := True.intro
theorem law_holds.tw9069877914133315304 : True := True.intro
theorem law_holds.tw13650905803964671038 : True := True.intro
theorem law_holds.tw2269544990204364226 : True := True.intro
theorem law_holds.tw13220211186989608806 : True := True.intro
theorem law_holds.tw13392613628428298086 : True := True.intro
theorem law_holds.tw11633083819707477107 : True := True.intro
theorem law_holds.tw3850404396616230974 : True := True.intro
theorem law_holds.tw10465528174321978529 : True := True.intro
theorem law_holds.tw10024239376800412576 : True := True.intro
theorem law_holds.tw11846676642670509255 : True := True.intro
theorem law_holds.tw7019463264422422977 : True := True.intro
theorem law_holds.tw4992725456586698614 : True := True.intro
theorem law_holds.tw14822640431511872941 : True := True.intro
theorem law_holds.tw2644310842459337959 : True := True.intro
theorem law_holds.tw10486713781251687710 : True := True.intro
theorem law_holds.tw9634471323475708679 : True := True.intro
theorem law_holds.tw11966672015165255308 : True := True.intro
theorem law_holds.tw15191720212996534143 : True := True.intro
theorem law_holds.tw3158129796062787159 : True := True.intro
theorem law_holds.tw4030767218360268280 : True := True.intro
theorem law_holds.tw16461882675039125421 : True := True.intro
theorem law_holds.tw4515466672771955728 : True := True.intro
theorem law_holds.tw8835965917227929528 : True := True.intro
theorem law_holds.tw8720880381367431298 : True := True.intro
theorem law_holds.tw17180001009569633970 : True := True.intro
theorem law_holds.tw14828999820898988419 : True := True.intro
theorem law_holds.tw5212653520564569363 : True := True.intro
theorem law_holds.tw3742325753681652743 : True := True.intro
theorem law_holds.tw4037582482628031876 : True := True.intro
theorem law_holds.tw1832781179975386347 : True := True.intro
theorem law_holds.tw4146061822495498468 : True := True.intro
theorem law_holds.tw12419048959643632839 : True := True.intro
theorem law_holds.tw11133525997344109421 : True := True.intro
set_option Elab.async true in
theorem law_holds : PySem.Challenge.rw_pq1320_01.Holds := by
  refine quietly ?_ ?_
  focus
    (w_on; o_law; k_head; (case hw => w_witness2); w_top off)
    k_go0
    (all_goals try k_fold)
    rename_i w s₀ s₁ mg mb G Y fa o pm doc ho hg KX X V GL T B TE TW w1 w2 M w3 cd hcd ns hs hlay0 hL1 hr1 hl2 w4 w5 sc vs w6 hl ra w7 r0 hI hr hcond hcond2 K0 hD h₁ tk₁ F1 c1 c2 c3 cc1 cc2 cc3 N1 XC
    replace KX : (hd.heap_1_1 w.params).In s₁.heap := KX
    have hlen : vs.length ≤ 63 := by have := hI.length; omega
    clear XC hD K0 hr ra hL1 hlay0 hs hr1 hl2 hcd r0 ho X V GL B TE TW M hcond hcond2
    (with_reducible refine' cut2 ?P ?_ ?_)
    (case P => exact (LwSt s₁.heap s₁.heap.objs.size s₁ fun _ _ _ => True))
    · clear hI hl hlen F1 N1 cc1 cc2 cc3
      refine LwSt.cut0 ?_
      intro h tk m vs ns n sp o1 o2 o3 R d1 d2 F N hd1 hd2 hd3 hv hb hs ne1 ne2 ne3 r1 r2 r3 r4
      (with_reducible refine' cut2 ?P ?_ ?_)
      (case P => exact (LwSt s₁.heap s₁.heap.objs.size s₁ (LwWords s₁.heap s₁.heap.objs.size)))
      · clear F N hd1 hd2 hd3 hv hb hs r1 r2 r3 r4 ne1 ne2 ne3
        refine LwSt.cutW ?_
        intro h tk m vs ns n sp o1 o2 o3 R d1 wl ws ys n1 wd tw F N hd1 hd3 hv hb hs ne1 ne2 ne3 r1 r2 r3 r4 hwm hz hy hyl hd2 w0 w1
        have hw3 : @Ne Nat wl (s₁.heap.objs.size + 1 + 1 + 1) := r2 _ hwm
        have hw2 : @Ne Nat wl sp := r1 _ hwm
        have hwl : ws.length ≤ 1000 := by rw [strsAre_length hz]; omega
        (with_reducible refine' cut1 ?P ?_ ?_)
        (case P => exact (LwSt s₁.heap s₁.heap.objs.size s₁ fun _ _ _ => True))
        · clear F N hd1 hd2 hd3 hv hb hs r1 r2 r3 r4 ne1 ne2 ne3 hw2 hw3 hz hy hyl w0 w1 hwm hwl
          refine LwSt.cut0 ?_
          intro h tk m vs ns n sp o1 o2 o3 R d1 d2 F N hd1 hd2 hd3 hv hb hs ne1 ne2 ne3 r1 r2 r3 r4
          (with_reducible refine' cut1 ?P ?_ ?_)
          (case P => exact (LwSt s₁.heap s₁.heap.objs.size s₁ fun _ _ _ => True))
          · clear F N hd1 hd2 hd3 hv hb hs r1 r2 r3 r4 ne1 ne2 ne3
            refine LwSt.cut0 ?_
            intro h tk m vs ns n sp o1 o2 o3 R d1 d2 F N hd1 hd2 hd3 hv hb hs ne1 ne2 ne3 r1 r2 r3 r4
            (with_reducible refine' cut2 ?P ?_ ?_)
            (case P => exact (LwQ s₁.heap s₁.heap.objs.size s₁))
            · clear F N hd1 hd2 hd3 hv hb hs r1 r2 r3 r4 ne1 ne2 ne3
              refine LwQ.cut ?_
              intro h tk m ql qv qs n1 pl tp F N hz hq hql p0 p4
              (with_reducible refine' cut3 ?P ?_ ?_)
              (case P => exact (LwF s₁.heap s₁.heap.objs.size s₁))
              · clear F N hz hq hql p0 p4
                refine LwF.cut ?_
                intro h tk m ql qv qs n1 pl tp it its wt R F N hz hq hql p0 p4 hT
                obtain ⟨wa, wb, wc⟩ := want_ok qs
                have hc : 0 ≤ zmax (wantF qs) pl ∧ zmax (wantF qs) pl < 5 := by
                  have := @zmax_le (wantF qs) pl
                  have := zmax_or (wantF qs) pl
                  omega
                have hz0 : Held (IntsAre qv qs) := hz
                (with_reducible refine' cut3 ?P ?_ ?_)
                (case P => exact (LwG s₁.heap s₁.heap.objs.size s₁))
                · clear F N hz hq hql p0 p4 hT hc wa wb wc hz0
                  refine LwG.cut ?_
                  intro h tk m du ds n3 qs pl tp it its R F N hds hq hql p0 p4 hT
                  obtain ⟨wa, wb, wc⟩ := want_ok qs
                  have hok := due_strs hq p0 p4
                  have hil : its.length ≤ 1000 := by
                    have := (NewsAll.at hT N (sub_tail sub_self)).2.length
                    rw [this, List.length_map]; omega
                  have hfr : ∀ x ∈ qs.map qx, FracOk x := fun x hx => by
                    obtain ⟨q, hm, rfl⟩ := List.mem_map.mp hx
                    exact (q_ok (hq q hm).1 (hq q hm).2).1
                  have hcf := cf_quarters hq
                  k_steps
                  all_goals exact goodW_bool (by k_asm) hg (fun _ => rfl) rfl
                · intro hC
                  k_steps
                  unfold Held
                  (rename (_ ∧ AllLt _ R) => lt1)
                  (rename Fr _ _ _ _ => F8)
                  (rename News _ _ _ _ => N8)
                  obtain ⟨lta, ltb⟩ := lt1
                  have hRd := allLt_ne ltb
                  (with_reducible refine' fn_iterK (vs := qv) (k := n1) (GJ ql it ?du (listOf (List.toArray qv) n1) R pl tp qs (zmax (wantF qs) pl)) ?k1 ?kN ?kl ?ko ?kF ?kj ?kJ ?turn ?done)
                  (case k1 => exact rfl)
                  (case kN => exact N8)
                  (case kl => exact .tail _ (.head _))
                  (case ko => exact rfl)
                  (case kF => exact F8)
                  (case kj => exact ⟨[], _, _, rfl, by with_unfolding_all rfl, by with_unfolding_all rfl, by with_unfolding_all rfl, by with_unfolding_all rfl, .nil⟩)
                  (case kJ =>
                    rintro i m nx ⟨ds, n3, tc, rfl, _⟩
                    exact .tail _ (.head _))
                  (case turn =>
                    clear F8 N8
                    intro i v m₁ nx h tk I oI hv9 hJ hI F N
                    refine GJ.use hJ hI F N ?_
                    clear hJ hI F N
                    intro ds n3 tc F N hds hI1 hI2 hI3
                    refine ints_pick (Held.go hz0) hv9 F ?_
                    clear hv9 F
                    intro q tq hq9 F
                    have q0 := (hq q (List.mem_of_getElem? hq9)).1
                    have q1 := (hq q (List.mem_of_getElem? hq9)).2
                    have hl1 : ds.length ≤ 3 := by
                      rw [strsAre_length hds, List.length_map, List.length_take]; omega
                    clear hC
                    generalize zmax (wantF qs) pl = c at *
                    obtain ⟨c0, c1⟩ := hc
                    k_steps
                    all_goals first
                      | exact g_end (due_pp (by assumption) (by assumption) (by assumption) (by assumption)) hq9 (by k_asm) (by k_asm) (by k_mem) (by k_mem) (by k_mem) (by k_extra "kat_tups") (by with_unfolding_all rfl) (by with_unfolding_all rfl) (by with_unfolding_all rfl) (by with_unfolding_all rfl) hds hI1 hI2 hI3
                      | exact g_end (due_np (by assumption) (by assumption) (by assumption) (by assumption)) hq9 (by k_asm) (by k_asm) (by k_mem) (by k_mem) (by k_mem) (by k_extra "kat_tups") (by with_unfolding_all rfl) (by with_unfolding_all rfl) (by with_unfolding_all rfl) (by with_unfolding_all rfl) hds hI1 hI2 hI3
                      | exact g_end (due_pn (by assumption) (by assumption) (by assumption)) hq9 (by k_asm) (by k_asm) (by k_mem) (by k_mem) (by k_mem) (by k_extra "kat_tups") (by with_unfolding_all rfl) (by with_unfolding_all rfl) (by with_unfolding_all rfl) (by with_unfolding_all rfl) hds hI1 hI2 hI3
                      | exact g_end (due_nn (by assumption) (by assumption) (by assumption)) hq9 (by k_asm) (by k_asm) (by k_mem) (by k_mem) (by k_mem) (by k_extra "kat_tups") (by with_unfolding_all rfl) (by with_unfolding_all rfl) (by with_unfolding_all rfl) (by with_unfolding_all rfl) hds hI1 hI2 hI3)
                  (case done =>
                    intro m₁ nx h tk hJ F N
                    refine GJ.fin hJ N ?_
                    clear hJ N
                    intro ds n3 N md mp mi hds
                    have hqq : qs.take qv.length = qs := by rw [(Held.go hz0).length]; exact List.take_of_length_le (Nat.le_refl _)
                    rw [hqq] at hds
                    k_steps
                    unfold Held
                    exact lwG (by k_asm) (news_sub (by k_asm) (sub_cons (.head _) fun p hp => .tail _ (.tail _ hp))) md mp mi hds hq hql p0 p4 hT)
              · intro hC
                have hz0 : Held (IntsAre qv qs) := hz
                k_steps
                unfold Held
                rename_i it hx1 lt1 hx2 F8 N8
                (with_reducible refine' fn_iterK (vs := qv) (k := n1) (FJ s₁.heap s₁.heap.objs.size ql it (listOf (List.toArray qv) n1) pl tp qs) ?k1 ?kN ?kl ?ko ?kF ?kj ?kJ ?turn ?done)
                (case k1 => exact rfl)
                (case kN => exact N8)
                (case kl => exact .tail _ (.head _))
                (case ko => exact rfl)
                (case kF => exact F8)
                (case kj => exact ⟨[], _, _, [], rfl, no_entry, by with_unfolding_all rfl, by with_unfolding_all rfl, by with_unfolding_all rfl, by with_unfolding_all rfl, fun h _ => .nil⟩)
                (case kJ =>
                  rintro i m nx ⟨its, n2, wt, R, rfl, _⟩
                  exact .tail _ (.head _))
                (case turn =>
                  intro i v m₁ nx h tk I oI hv9 hJ hI F N
                  refine FJ.use hJ hI F N ?_
                  clear hJ hI F N
                  intro its n2 wt R F N rR hT hI1 hI2 hI3
                  refine ints_pick (Held.go hz0) hv9 F ?_
                  clear hv9 F
                  intro q tq hq9 F
                  have q0 := (hq q (List.mem_of_getElem? hq9)).1
                  have q1 := (hq q (List.mem_of_getElem? hq9)).2
                  have hl1 : its.length ≤ 3 := by
                    have := (NewsAll.at hT N (sub_tail (sub_tail (sub_tail sub_self)))).length
                    rw [this, List.length_map, List.length_take]; omega
                  clear hC
                  k_steps
                  all_goals first
                    | contradiction
                    | exact f_end (wq0 (by assumption)) hq9 (by k_asm) (by k_asm) rR (by with_unfolding_all rfl) (by with_unfolding_all rfl) (by with_unfolding_all rfl) (by with_unfolding_all rfl) hT hI1 hI2 hI3 (by k_ne) (by k_ne)
                    | exact f_end (wq1 (by assumption) (by assumption)) hq9 (by k_asm) (by k_asm) rR (by with_unfolding_all rfl) (by with_unfolding_all rfl) (by with_unfolding_all rfl) (by with_unfolding_all rfl) hT hI1 hI2 hI3 (by k_ne) (by k_ne)
                    | exact f_end (wq2 (by assumption) (by assumption)) hq9 (by k_asm) (by k_asm) rR (by with_unfolding_all rfl) (by with_unfolding_all rfl) (by with_unfolding_all rfl) (by with_unfolding_all rfl) hT hI1 hI2 hI3 (by k_ne) (by k_ne))
                (case done =>
                  intro m₁ nx h tk hJ F N
                  refine FJ.fin hJ N ?_
                  clear hJ N
                  intro its n2 wt R N rR mq mp mi mw hT
                  have hqq : qs.take qv.length = qs := by rw [(Held.go hz0).length]; exact List.take_of_length_le (Nat.le_refl _)
                  rw [hqq] at mw hT
                  k_steps
                  unfold Held
                  exact lwF (R := (it, listOf (List.toArray its) n2) :: R) (by k_asm) (news_sub (by k_asm) (sub_cons (.tail _ (.head _)) (sub_cons (.head _) fun p hp => .tail _ (.tail _ hp)))) mq mp mi mw (Held.go hz0) hq hql p0 p4 fun h N' => ⟨News.isList N' (.head _), hT h fun p hp => N' p (.tail _ hp)⟩)
            · intro hC
              k_steps
              unfold Held
              rename_i r9 t9 vs9 ns9 n9 h9 tk9 F9 N9 hv9 hb9 hs9 r90 r91 h8 tk8 t1 u1 v1 hRg F8 N8 k8
              k_dflt (refine LCg.CompSrc.range (n := (1 + r9).toNat) (by rfl) F8 N8 hRg ?_ ?_ ?_ ?_)
              · exact small_one (by omega) (by omega) (by omega) (by omega)
              · rw [rangeSize_one]; split <;> omega
              · exact Nat.le_trans (by omega : (1 + r9).toNat ≤ 6) (by decide)
              intro gg
              refine comp_indG (1 + r9).toNat (QInv s₁.heap.objs.size sp o1 o2 o3 R) ⟨vs9, ns9, n9, [], rfl, hv9, hb9, hs9, .nil, fun _ h => (nomatch h), rfl⟩ ?_ ?_
              · clear F8 N8 F9 N9 hv9 hb9 hs9 k8 hRg
                intro i zs nw v I oI C oC D m₂ h tk E' hin hW hv9 hC9 hm F' N' off' ne'
                refine QInv.use hW N' off' ?_
                clear hW N' off'
                intro vs ns n qs hv hb hs hz hy hyl N' off'
                have off0 := off'
                (try simp only [LCg.Off3, and_true] at off')
                k_steps
                exact quart_end (by k_asm) (by k_asm) off0 (by k_asm) (by k_asm) (by k_asm) hz hy hyl (by omega) (by omega)
              · clear F8 N8 F9 N9 hv9 hb9 hs9 k8 hRg
                intro zs nw hW
                refine QInv.fin hW ?_
                clear hW
                intro vs ns n qs hv hb hs hz hy hyl
                unfold LCg.FinA
                intro D h tk F9 N9 o9
                (try simp only [LCg.Off1, and_true] at o9)
                k_steps
                unfold Held
                rename_i F7 N7
                exact lwQ (ql := D) F7 (news_sub N7 (sub_cons (.head _) no_entry)) (by with_unfolding_all rfl) (by with_unfolding_all rfl) hz hy (by omega) (by assumption) (by assumption)
          · intro hC
            k_steps
            unfold Held
            refine' lwSt R ?kF ?kN ?km ?k1 ?k2 ?k3 ?kR ⟨d1, hd1⟩ ⟨d2, hd2⟩ hd3 ?kv ?kb ?ks ⟨ne1, ne2, ne3⟩ r1 r2 r3 r4 trivial
            (case kF => k_asm)
            (case kN => k_asm)
            (case km => k_mem)
            (case k1 => k_mem)
            (case k2 => k_mem)
            (case k3 => k_mem)
            (case kR => k_extra "kat_tups")
            (case kv => assumption)
            (case kb => assumption)
            (case ks => assumption)
        · intro hC
          k_steps
          unfold Held
          (with_reducible refine' For_any ?kF (SideJ s₁.heap.objs.size (fun z => if z = Str.ofString "words" then some (Value.ref wl) else m z) ((wl, listOf (List.toArray ws) n1) :: (sp, listOf (List.toArray vs) n) :: (s₁.heap.objs.size + 1 + 1, o2) :: (s₁.heap.objs.size + 1, o3) :: R)) SideV ?turn ?done ?list ?kh ?hs ?hE)
          (case kF => exact F)
          (case kh => exact rfl)
          (case hs => intro _; rfl)
          (case hE => passes_own)
          (case list =>
            k_steps
            rename_i lx hx Fx Nx lt1
            obtain ⟨lta, ltb, ltc, ltd, lte⟩ := lt1
            have hne9 := allLt_ne lte
            exact anyAt Fx (nx := (s₁.heap.objs.size + 1 + 1 + 1, o1) :: (wl, listOf (List.toArray ws) n1) :: (sp, listOf (List.toArray vs) n) :: (s₁.heap.objs.size + 1 + 1, o2) :: (s₁.heap.objs.size + 1, o3) :: R)
              (news_sub Nx (sub_cons (.head _) (sub_cons (by k_mem) (sub_cons (.tail _ (.tail _ (.tail _ (.tail _ (.tail _ hwm))))) (sub_cons (by k_mem) (sub_cons (by k_mem) (sub_cons (by k_mem) (by k_extra "kat_tups"))))))))
              rfl rfl (nes_cons (by k_ne) (nes_cons (hne9 _ hwm) (nes_cons (by k_ne) (nes_cons (by k_ne) (nes_cons (by k_ne) hne9))))) ⟨rfl, o1, ⟨d1, hd1⟩, rfl⟩ side_vals)
          (case done =>
            intro h tk m' nx hJ F N
            refine SideJ.fin hJ F N ?_
            clear hJ F N
            intro o1 x1 hx1 F N
            k_steps
            unfold Held
            refine' lwSt R ?kF ?kN ?km ?k1 ?k2 ?k3 ?kR ⟨x1, hx1⟩ ⟨_, hd2⟩ hd3 hv hb hs ⟨ne1, ne2, ne3⟩ r1 r2 r3 r4 trivial
            (case kF => k_asm)
            (case kN => k_asm)
            (case km => k_mem)
            (case k1 => k_mem)
            (case k2 => k_mem)
            (case k3 => k_mem)
            (case kR => k_extra "kat_tups"))
          (case turn =>
            intro v h tk m' nx I oI ax lo hV hJ hI hax F N
            refine SideJ.use hJ hI F N ?_
            clear hJ hI F N
            intro o1 x1 hx1 hI F N
            refine SideV.use hV ?_
            clear hV
            intro sd ts hsd
            have hI0 := hI
            have i1 := (hI _ (.head _)).1
            have i2 := (hI _ (.head _)).2
            have i3 := (hI _ (.tail _ (.head _))).1
            have i4 := (hI _ (.tail _ (.head _))).2
            have i5 := (hI _ (.tail _ (.tail _ (.head _)))).1
            have i6 := (hI _ (.tail _ (.tail _ (.head _)))).2
            have i7 := (hI _ (.tail _ (.tail _ (.tail _ (.head _))))).1
            have i8 := (hI _ (.tail _ (.tail _ (.tail _ (.head _))))).2
            have i9 := (hI _ (.tail _ (.tail _ (.tail _ (.tail _ (.head _)))))).1
            have i10 := (hI _ (.tail _ (.tail _ (.tail _ (.tail _ (.head _)))))).2
            have i11 : ∀ p ∈ R, (@Ne Nat p.1 I) ∧ (@Ne Nat p.1 ax) := fun p hp => hI p (.tail _ (.tail _ (.tail _ (.tail _ (.tail _ hp)))))
            clear hI
            have hok : ∀ y ∈ ys.map (fun y => filTw sd y wd), PyData.strOk y = true := fun z hzm => by
              obtain ⟨y, hym, rfl⟩ := List.mem_map.mp hzm
              exact (fill_at (hy y hym) w0 w1).2.2.2.2.2.2 hsd
            k_steps
            unfold Held
            k_dflt (refine LCg.CompSrc.ledger (its := ws.toArray) (k := n1) (by rfl) (by k_asm) (by k_asm) (by k_mem) (by rw [List.size_toArray]; exact Nat.le_trans hwl (by decide)) ?_)
            intro gg
            rw [show (List.toArray ws).size = ws.length from List.size_toArray ..]
            refine comp_ind ws.length (fun i zs => StrsAre zs ((ys.take i).map fun y => filTw sd y wd)) .nil (Or.inr ⟨_, by k_mem, rfl, _, rfl⟩) ?_ ?_
            · rintro i zs v I' oI' C oC D m₂ h tk E' hin hR hv9 hC9 hm F' N' off' ne'
              have hv8 : ws[i]? = some v := by simpa using hv9
              clear hv9
              refine strs_pick hz hv8 hm ?_
              clear hv8 hm
              intro y ty hy9 hm
              have hy1 : y.length ≤ 100 := Nat.le_trans (fill_at (sd := sd) (hy y (List.mem_of_getElem? hy9)) w0 w1).1 (by decide)
              rw [map_take_snoc _ hy9]
              (try simp only [LCg.Off3, and_true] at off')
              k_steps
              all_goals first | assumption | exact strsAre_snoc hR
            · intro zs2 hR
              rw [strsAre_length hz, List.take_length] at hR
              unfold LCg.FinE
              intro D h tk F9 N9 o9
              k_steps
              exact side_end (by k_asm) (by k_asm) (by k_mem) (by k_mem) (by k_mem) (sub_cons (by k_mem) (sub_cons (by k_mem) (sub_cons (by k_mem) (sub_cons (by k_mem) (by k_extra "kat_tups"))))) (fun p hp => hI0 p (.tail _ hp)) ⟨i1, i2⟩ ⟨_, by assumption⟩)
      · intro hC
        k_steps
        unfold Held
        rename_i h8 tk8 t1 u1 v1 hRg F8 N8 k8
        k_dflt (refine LCg.CompSrc.range (n := r9.toNat) (by rfl) F8 N8 hRg ?_ ?_ ?_ ?_)
        · exact small_one (by omega) (by omega) (by omega) (by omega)
        · rw [rangeSize_one]; split <;> omega
        · exact Nat.le_trans (by omega : r9.toNat ≤ 6) (by decide)
        intro gg
        refine comp_indG r9.toNat (WordInv s₁.heap.objs.size sp o1 o2 o3 R) ⟨vs9, ns9, n9, [], rfl, hv9, hb9, hs9, .nil, fun _ h => (nomatch h), rfl⟩ ?_ ?_
        · clear F8 N8 F' N' hv9 hb9 hs9 k8 hRg
          intro i zs nw v I oI C oC D m₂ h tk E' hin hW hv9 hC9 hm F' N' off' ne'
          refine WordInv.use hW N' off' ?_
          clear hW N' off'
          intro vs ns n ys hv hb hs hz hy hyl N' off'
          have off0 := off'
          (try simp only [LCg.Off3, and_true] at off')
          k_steps
          exact word_end (by k_asm) (by k_asm) off0 (by k_asm) (by k_asm) (by k_asm) hz hy hyl (by assumption) (by assumption)
        · clear F8 N8 F' N' hv9 hb9 hs9 k8 hRg
          intro zs nw hW
          refine WordInv.fin hW ?_
          clear hW
          intro vs ns n ys hv hb hs hz hy hyl
          unfold LCg.FinA
          intro D h tk F9 N9 o9
          (try simp only [LCg.Off1, and_true] at o9)
          k_steps
          unfold Held
          refine' lwSt ((D, LCg.lst zs) :: R) ?kF ?kN ?km ?k1 ?k2 ?k3 ?kR ⟨d1, hd1⟩ ?d2 hd3 ?kv ?kb ?ks ⟨ne1, ne2, ne3⟩ ?r1 ?r2 ?r3 ?r4 ?kK
          (case kF => k_asm)
          (case kN => k_asm)
          (case km => k_mem)
          (case k1 => k_mem)
          (case k2 => k_mem)
          (case k3 => k_mem)
          (case kR => exact sub_five)
          (case d2 => exact ⟨_, by assumption⟩)
          (case kv => assumption)
          (case kb => assumption)
          (case ks => assumption)
          (case r1 => exact all_cons (by k_ne) r1)
          (case r2 => exact all_cons (by k_ne) r2)
          (case r3 => exact all_cons (by k_ne) r3)
          (case r4 => exact all_cons (by k_ne) r4)
          (case kK => exact ⟨D, zs, ys, _, _, _, by with_unfolding_all rfl, .head _, hz, hy, by omega, by assumption, by assumption, by assumption⟩)
    · intro hC
      k_steps
      unfold Held
      refine' lwSt [] ?kF ?kN ?km ?k1 ?k2 ?k3 no_entry ?d1 ?d2 ?d3 ?kv ?kb ?ks ?lt no_entry no_entry no_entry no_entry trivial
      (case kF => k_asm)
      (case kN => k_asm)
      (case km => k_mem)
      (case k1 => k_mem)
      (case k2 => k_mem)
      (case k3 => k_mem)
      (case d1 => exact ⟨_, cc1⟩)
      (case d2 => exact ⟨_, cc2⟩)
      (case d3 => assumption)
      (case kv => assumption)
      (case kb => assumption)
      (case ks => assumption)
      (case lt => exact ⟨by k_ne, by k_ne, by k_ne⟩)
  intro hf
  simpa only using (ensure_type_of% (quiet_coe hf (0 : Nat) (by exact rfl)) "" hf)
end
end Mine
theorem PySem.Challenge.cw_pq1320_01_holds : PySem.Challenge.rw_pq1320_01.Holds := by
  exact Mine.law_holds
