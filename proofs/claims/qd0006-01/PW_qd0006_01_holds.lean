import PyProof.Rows.All
import Wide.All
import OpenK.AllK
import Wide.FinOn
import Lean
import PySem.Challenge.RW_qd0006_01
set_option Elab.async false
section -- Qtop
open PySem PySem.W PyProof.Rows
set_option maxRecDepth 100000
set_option maxHeartbeats 8000000
namespace Mine
def kept : List Stmt → List Stmt
  | _ :: a :: b :: _ :: c :: l => a :: b :: c :: (l.take 14 ++ l.drop 15)
  | l => l
def vw : Program := { PySem.Challenge.pw_qd0006_01 with main := { PySem.Challenge.pw_qd0006_01.main with body := kept PySem.Challenge.pw_qd0006_01.main.body } }

/-- behind the boot (the library's state) it is enough to run the top -/
theorem left_of {p q : Program} {loose : List Str} {Xt : Shared → Bool} {α : Type} {Yf : Shared → α} {Ya : World → α} {N : Nat} (e : opening p = plainProg p.main.scope.names) (hN : Nat.ble 600 N = true) (f : ∀ s, fenceModules? p s = some s)
    (h : ∀ (w : World) (os : OsState), (topFrom treeTable p w N ⟨boot_heap w.params, Array.mk [], boot_drawn, boot_toks, os⟩).map (fun s => (openSeen q loose (importedModules p.main.body) Xt true s, Yf s)) = some (openGood q loose, Ya w)) : LeftO p q loose Xt Yf Ya N := fun w => by
  obtain ⟨⟨a, gs, d, k, os⟩, e1, e2⟩ := Option.map_eq_some_iff.mp (boot_open e hN f w)
  obtain ⟨rfl, rfl, rfl, rfl⟩ : a = boot_heap w.params ∧ gs = Array.mk [] ∧ d = boot_drawn ∧ k = boot_toks := by
    simp only [Prod.mk.injEq] at e2; exact e2
  unfold openEnds
  rw [e1]
  exact h w os

local macro_rules | `(tactic| o_head $H) => `(tactic| (
  refine holds_open (q := Mine.vw) (loose := []) (Xt := fun s => xlAt Mine.vw [] s && recOk (RowW.records (OpenRow.toRowW (OpenLaw.row PySem.Challenge.rw_qd0006_01))) s) (XP := XL Mine.vw []) (Yf := Hook.obs $H) (Ya := Hook.val $H) (YP := Hook.says $H) (N := 2612)
    ?hl (Hook.of $H) (Hook.keeps $H) (fun s e => xl_of s (Bool.and_eq_true_iff.mp e).1) XL.keeps (by rfl) (by rfl) (by rfl) (fun s e => recFacts_of (Bool.and_eq_true_iff.mp e).2) (by rfl) (by first | assumption | decide +kernel) (by decide +kernel) ⟨rfl, rfl, rfl, rfl, rfl, by decide +kernel⟩ ?hw ?hc
  case hl =>
    refine Mine.left_of (by kernel_rfl) (by kernel_rfl) (fun _ => by kernel_rfl) fun w os => ?_
    unfold topFrom
    rewrite [PySem.W.Fast.te14364793385576792824, PySem.W.Fast.te14082659384304107361, PySem.W.Fast.te4187177175401517315, PySem.W.Fast.te8920871248978507458]
    kernel_rfl
  all_goals (rename_i h; clear h)))
open_top hd for PySem.Challenge.rw_qd0006_01
end Mine
end
section -- Q0
open PySem PySem.W PyProof.Rows PySem.Calls
set_option maxRecDepth 100000
set_option maxHeartbeats 8000000
namespace Mine

abbrev Tp (mean : ExcName → Option Value) (mg mb : Str → Option Value) (h : Heap) : Prop := Top vw (looseW vw []) mean mg mb h

theorem hideAll_nil (h : Heap) : hideAll h [] = h := rfl

/-- entering a def of the text: what the call may change is `muts`; all else is the base -/
theorem enter {prog : Program} {w : World} {A : Around} {s : Shared} {K : Frag} {p : Program} {loose : List Str} {mean : ExcName → Option Value} {mg mb : Str → Option Value} (muts : List (Addr × Obj))
    {name qual : Str} {params : Arguments} {body : List Stmt} {scope : Scope} {dV kV doc pm cdv ct oc : Value} {an od : Option Addr} {osl : Array (Option Value)} {f : Addr} {args : List Value} {binds : List (Str × Value)} {Q : Value → Shared → Prop} {E : Value → Shared → Prop}
    (hm : ∀ q ∈ muts, s.heap.get? q.1 = some q.2)
    (X : K.In (hideAll s.heap (muts.map (·.1)))) (T : Top p loose mean mg mb (hideAll s.heap (muts.map (·.1))))
    (ho : K.lookup f = some ⟨oc, od, .func (fnOf name qual params body scope dV kV doc pm an cdv ct), osl⟩) (hcd : codeIn K cdv qual = true) (hroom : A.depth < recursionLimit)
    (hbind : BindsTo s (fnOf name qual params body scope dV kV doc pm an cdv ct) ⟨args, []⟩ binds) (hloc : ∀ y ∈ binds, scope.names.lookup y.1 = some .local)
    (h : ∀ g L' h₁, g = hideAll s.heap (muts.map (·.1)) → K.In g → Top p loose mean mg mb g → Fr g L' h₁ (fun y => binds.reverse.lookup y) → News g L' h₁ muts → s.heap.StaysIn h₁ →
      wpAny (model prog w) (A.deeper (envOf qual scope L' f cdv)) (execs body (envOf qual scope L' f cdv))
        (fun fl s' => Q (match fl with | .ret v => v | _ => .none) s') (fun _ _ => False)
        { s with heap := h₁, toks := s.toks + binds.length })
    (hco : scope.isCoroutine = false) (hgen : scope.isGenerator = false) (hk : scope.kind = .function)
    (hcell : ∀ x ∈ scope.names, x.2 ≠ .cell) : wpAny (model prog w) A (call (.ref f) args) Q E s := by
  have st : (hideAll s.heap (muts.map (·.1))).StaysIn s.heap := fun b o e => of_hideAll _ e
  refine wpAny_noRaise (wpAny_call ?_)
  refine codeAny_call_def (fd := fnOf name qual params body scope dV kV doc pm an cdv ct) (body := body) (binds := binds) hroom (st _ _ (X _ _ ho)) rfl (T.nolimit.keeps st) (codeRec_of (X.keeps st) hcd) rfl hbind hcell hloc (fun h₁ hns hk₁ => ?_) hco hgen hk
  refine wpAny_mono (h _ s.heap.objs.size h₁ rfl X T ⟨hns, fun b o e => hk₁ b o (st b o e), Nat.le_of_eq (hideAll_size _ _)⟩ (fun p hp => ⟨hk₁ _ _ (hm p hp), Nat.ne_of_lt (Heap.lt_size (hm p hp)), hideAll_none _ (List.mem_map_of_mem hp)⟩) hk₁)
    (fun fl s' hl => ?_) (fun _ _ x => x.elim)
  exact hl

end Mine
end
section -- Q1
open PySem PySem.W PyProof.Rows PySem.Calls
set_option maxRecDepth 100000
set_option maxHeartbeats 4000000
set_option linter.unusedVariables false
namespace Mine

theorem stays_refl (h : Heap) : h.StaysIn h := fun _ _ e => e
theorem stays_trans {a b c : Heap} (x : a.StaysIn b) (y : b.StaysIn c) : a.StaysIn c := fun _ _ e => y _ _ (x _ _ e)
theorem stays_push (h : Heap) (o : Obj) : h.StaysIn (h.push o) := fun _ _ e => Heap.get?_push_of_some _ e

/-- the value is this int -/
def IsI (z : Int) (_ : Heap) (v : Value) : Prop := ∃ t, v = .int z t
def IsV (u : Value) (_ : Heap) (v : Value) : Prop := v = u
def Stab (R : Heap → Value → Prop) : Prop := ∀ h h' v, h.StaysIn h' → R h v → R h' v
theorem stab_i {z : Int} : Stab (IsI z) := fun _ _ _ _ h => h
theorem stab_v {u : Value} : Stab (IsV u) := fun _ _ _ _ h => h

/-- a pure evaluation: whatever stands stays -/
def Ev (prog : Program) (w : World) (A : Around) (env : Env) (h₀ : Heap) (e : Expr) (R : Heap → Value → Prop) : Prop :=
  ∀ (s : Shared) (Q : Value → Shared → Prop) (E : Value → Shared → Prop), h₀.StaysIn s.heap →
    (∀ v h' tk, s.heap.StaysIn h' → R h' v → Q v { s with heap := h', toks := tk }) → wpAny (model prog w) A (eval e env) Q E s
def EvL (prog : Program) (w : World) (A : Around) (env : Env) (h₀ : Heap) (es : List Expr) (R : Heap → List Value → Prop) : Prop :=
  ∀ (pos : Pos) (s : Shared) (Q : List Value → Shared → Prop) (E : Value → Shared → Prop), h₀.StaysIn s.heap →
    (∀ vs h' tk, s.heap.StaysIn h' → R h' vs → Q vs { s with heap := h', toks := tk }) → wpAny (model prog w) A (spliced (backTo pos (starEach es env))) Q E s
/-- a test -/
def EvT (prog : Program) (w : World) (A : Around) (env : Env) (h₀ : Heap) (e : Expr) (b : Bool) : Prop :=
  ∀ (s : Shared) (Q : Bool → Shared → Prop) (E : Value → Shared → Prop), h₀.StaysIn s.heap →
    (∀ h' tk, s.heap.StaysIn h' → Q b { s with heap := h', toks := tk }) → wpAny (model prog w) A (isTrue e env (eval e env)) Q E s
/-- a pure call -/
def Cl (prog : Program) (w : World) (A : Around) (h₀ : Heap) (f : Value) (vs : List Value) (R : Heap → Value → Prop) : Prop :=
  ∀ (s : Shared) (Q : Value → Shared → Prop) (E : Value → Shared → Prop), h₀.StaysIn s.heap →
    (∀ v h' tk, s.heap.StaysIn h' → R h' v → Q v { s with heap := h', toks := tk }) → wpAny (model prog w) A (call f vs) Q E s

section
variable {prog : Program} {w : World} {A : Around} {env : Env} {h₀ h₁ : Heap} {R R' R1 R2 : Heap → Value → Prop}
theorem Ev.mono {e : Expr} (h : Ev prog w A env h₀ e R) (hr : ∀ g v, R g v → R' g v) : Ev prog w A env h₀ e R' :=
  fun s Q E hs k => h s Q E hs fun v h' tk hk hv => k v h' tk hk (hr _ _ hv)
theorem Ev.mono' {e : Expr} (h : Ev prog w A env h₀ e R) (hr : ∀ g v, h₀.StaysIn g → R g v → R' g v) : Ev prog w A env h₀ e R' :=
  fun s Q E hs k => h s Q E hs fun v h' tk hk hv => k v h' tk hk (hr _ _ (stays_trans hs hk) hv)
theorem Ev.up {e : Expr} (h : Ev prog w A env h₀ e R) (k : h₀.StaysIn h₁) : Ev prog w A env h₁ e R := fun s Q E hs => h s Q E (stays_trans k hs)
theorem Ev.lit {i : Int} {k : Nat} {pos : Pos} : Ev prog w A env h₀ (.Constant (.int i) k pos) (IsI i) :=
  fun s Q E _ k => wpAny_Constant_int (k _ s.heap _ (stays_refl _) ⟨_, rfl⟩)
theorem Ev.noneE {k : Nat} {pos : Pos} : Ev prog w A env h₀ (.Constant .none k pos) (IsV .none) :=
  fun s Q E _ k => Constant_none (k _ s.heap s.toks (stays_refl _) rfl)
theorem Ev.bool {b : Bool} {k : Nat} {pos : Pos} : Ev prog w A env h₀ (.Constant (.bool b) k pos) (IsV (.bool b)) :=
  fun s Q E _ k => Constant_bool (k _ s.heap s.toks (stays_refl _) rfl)
theorem Ev.str {x : Str} {k : Nat} {pos : Pos} : Ev prog w A env h₀ (.Constant (.str x) k pos) (fun _ v => ∃ t, v = .str x t) :=
  fun s Q E _ k => Constant_str (k _ s.heap _ (stays_refl _) ⟨_, rfl⟩)

theorem Ev.loc {x : Str} {pos : Pos} {m : Str → Option Value} {v : Value} (hn : h₀.Ns env.locals m) (hv : m x = some v) (hk : env.scope.kind = .function) (hl : env.kindOf x = some .local) (hd : (x == ("__debug__" : Str)) = false) :
    Ev prog w A env h₀ (.Name x pos) (IsV v) :=
  fun s Q E hs k => wpAny_Name (wpAny_loadName_local hk hl (hn.keeps hs) hv (k _ s.heap s.toks (stays_refl _) rfl)) hd
theorem Ev.cell {x : Str} {pos : Pos} {c : Addr} {v : Value} (hc : env.cells.lookup x = some c) (hv : h₀.IsCell c (some v)) (hk : env.scope.kind = .function) (hl : env.kindOf x = some .cell) (hd : (x == ("__debug__" : Str)) = false) :
    Ev prog w A env h₀ (.Name x pos) (IsV v) :=
  fun s Q E hs k => wpAny_Name (wpAny_loadName_cell hk hl hc (hv.keeps hs) (k _ s.heap s.toks (stays_refl _) rfl)) hd
theorem Ev.free {x : Str} {pos : Pos} {c : Addr} {v : Value} (hc : env.cells.lookup x = some c) (hv : h₀.IsCell c (some v)) (hk : env.scope.kind = .function) (hl : env.kindOf x = some .free) (hd : (x == ("__debug__" : Str)) = false) (hn : (x == ("__classdict__" : Str)) = false) :
    Ev prog w A env h₀ (.Name x pos) (IsV v) :=
  fun s Q E hs k => wpAny_Name (wpAny_loadName_free hk hl hc (hv.keeps hs) (k _ s.heap s.toks (stays_refl _) rfl) hn) hd
theorem Ev.glob {x : Str} {pos : Pos} {mg : Str → Option Value} {v : Value} (hg : h₀.Ns env.globals mg) (hv : mg x = some v) (hk : env.scope.kind = .function) (hl : env.kindOf x = some .globalImplicit) (hd : (x == ("__debug__" : Str)) = false) :
    Ev prog w A env h₀ (.Name x pos) (IsV v) :=
  fun s Q E hs k => Name_function_global hk hl (loadGlobal_global (hg.keeps hs) hv (k _ s.heap s.toks (stays_refl _) rfl)) hd
theorem Ev.blt {x : Str} {pos : Pos} {mg mb : Str → Option Value} {v : Value} (hg : h₀.Ns env.globals mg) (hm : mg x = none) (hb : h₀.Ns env.builtins mb) (hv : mb x = some v) (hk : env.scope.kind = .function) (hl : env.kindOf x = some .globalImplicit) (hd : (x == ("__debug__" : Str)) = false) :
    Ev prog w A env h₀ (.Name x pos) (IsV v) :=
  fun s Q E hs k => Name_function_global hk hl (loadGlobal_builtin (hg.keeps hs) hm (hb.keeps hs) hv (k _ s.heap s.toks (stays_refl _) rfl)) hd

theorem Ev.bin {op : Operator} {l r : Expr} {pos : Pos} (h1 : Ev prog w A env h₀ l R1) (h2 : Ev prog w A env h₀ r R2) (st : Stab R1)
    (hop : ∀ (s : Shared) (a b : Value) (Q : Value → Shared → Prop) (E : Value → Shared → Prop), h₀.StaysIn s.heap → R1 s.heap a → R2 s.heap b → (∀ v h' tk, s.heap.StaysIn h' → R h' v → Q v { s with heap := h', toks := tk }) → wpAny (model prog w) A (binaryOp op a b) Q E s) :
    Ev prog w A env h₀ (.BinOp l op r pos) R := fun s Q E hs k => by
  refine wpAny_BinOp (h1 s _ E hs fun a ha tk1 hk1 r1 => h2 _ _ E (stays_trans hs hk1) fun b hb tk2 hk2 r2 => ?_)
  exact hop _ a b Q E (stays_trans hs (stays_trans hk1 hk2)) (st _ _ _ hk2 r1) r2 fun v h' tk hk hv => k v h' tk (stays_trans hk1 (stays_trans hk2 hk)) hv
theorem Ev.add {a b : Int} {l r : Expr} {pos : Pos} (h1 : Ev prog w A env h₀ l (IsI a)) (h2 : Ev prog w A env h₀ r (IsI b)) : Ev prog w A env h₀ (.BinOp l .Add r pos) (IsI (a + b)) :=
  h1.bin h2 stab_i fun s x y Q E _ hx hy k => by
    obtain ⟨t, rfl⟩ := hx; obtain ⟨u, rfl⟩ := hy
    exact PyProof.Rows.add_int (k _ s.heap _ (stays_refl _) ⟨_, rfl⟩)
theorem Ev.sub {a b : Int} {l r : Expr} {pos : Pos} (h1 : Ev prog w A env h₀ l (IsI a)) (h2 : Ev prog w A env h₀ r (IsI b)) : Ev prog w A env h₀ (.BinOp l .Sub r pos) (IsI (a - b)) :=
  h1.bin h2 stab_i fun s x y Q E _ hx hy k => by
    obtain ⟨t, rfl⟩ := hx; obtain ⟨u, rfl⟩ := hy
    exact PyProof.Rows.sub_int (k _ s.heap _ (stays_refl _) ⟨_, rfl⟩)
theorem Ev.neg {a : Int} {x : Expr} {pos : Pos} (h1 : Ev prog w A env h₀ x (IsI a)) : Ev prog w A env h₀ (.UnaryOp .USub x pos) (IsI (-a)) := fun s Q E hs k => by
  refine UnaryOp_ (h1 s _ E hs fun v h' tk hk hv => ?_)
  obtain ⟨t, rfl⟩ := hv
  exact PyProof.Rows.neg_int (k _ h' _ hk ⟨_, rfl⟩)

theorem EvL.nil : EvL prog w A env h₀ [] (fun _ vs => vs = []) := fun pos s Q E _ k => args_nil (k _ s.heap s.toks (stays_refl _) rfl)
theorem EvL.cons {e : Expr} {rest : List Expr} {R3 : Heap → List Value → Prop} {R4 : Heap → List Value → Prop} (h1 : Ev prog w A env h₀ e R1) (h2 : EvL prog w A env h₀ rest R3) (st : Stab R1)
    (hr : ∀ g v vs, R1 g v → R3 g vs → R4 g (v :: vs)) (he : starEach (e :: rest) env = (false, eval e env) :: starEach rest env) : EvL prog w A env h₀ (e :: rest) R4 := fun pos s Q E hs k => by
  refine args_cons (h1 s _ E hs fun v ha tk1 hk1 r1 => h2 pos _ _ E (stays_trans hs hk1) fun vs hb tk2 hk2 r2 => ?_) he
  exact k _ hb tk2 (stays_trans hk1 hk2) (hr _ _ _ (st _ _ _ hk2 r1) r2)
theorem EvL.one {e : Expr} (h1 : Ev prog w A env h₀ e R1) (st : Stab R1) (he : starEach [e] env = [(false, eval e env)] := by rfl) : EvL prog w A env h₀ [e] (fun g vs => ∃ v, vs = [v] ∧ R1 g v) :=
  .cons h1 .nil st (fun g v vs hv e => ⟨v, by rw [e], hv⟩) he
theorem EvL.two {e e' : Expr} (h1 : Ev prog w A env h₀ e R1) (h2 : Ev prog w A env h₀ e' R2) (st : Stab R1) (st2 : Stab R2) (he : starEach [e, e'] env = [(false, eval e env), (false, eval e' env)] := by rfl) : EvL prog w A env h₀ [e, e'] (fun g vs => ∃ v v', vs = [v, v'] ∧ R1 g v ∧ R2 g v') := by
  have e2 : starEach [e'] env = [(false, eval e' env)] := by
    have : starEach [e, e'] env = (starEach [e, e'] env).head?.toList ++ starEach [e'] env := by cases e <;> rfl
    rw [he] at this; simpa using this.symm
  exact .cons h1 (.one h2 st2 e2) st (fun g v vs hv ⟨v', e, h'⟩ => ⟨v, v', by rw [e], hv, h'⟩) (by rw [he, e2])

theorem Ev.callB {id : String} {func e : Expr} {rest : List Expr} {pos : Pos} {R3 : Heap → List Value → Prop} (hf : Ev prog w A env h₀ func (IsV (.builtin id))) (ha : EvL prog w A env h₀ (e :: rest) R3)
    (hc : ∀ (s : Shared) (vs : List Value) (Q : Value → Shared → Prop) (E : Value → Shared → Prop), h₀.StaysIn s.heap → R3 s.heap vs → (∀ v h' tk, s.heap.StaysIn h' → R h' v → Q v { s with heap := h', toks := tk }) → wpAny (model prog w) A (call (.builtin id) vs) Q E s)
    (he : starEach (e :: rest) env = (false, eval e env) :: starEach rest env := by rfl) (hplain : (backTo pos (starEach rest env)).any (·.1) = false := by rfl)
    (hcall : eval (.Call func (e :: rest) [] pos) env = (do callWith pos (← eval func env) [] (backTo pos (starEach (e :: rest) env)) (backToKw pos (keywordEach [] env))) := by rfl) :
    Ev prog w A env h₀ (.Call func (e :: rest) [] pos) R := fun s Q E hs k => by
  refine Call_ (hf s _ E hs fun v h' tk hk hv => ?_) hcall
  cases hv
  refine callWith_builtin1 (ha pos _ _ E (stays_trans hs hk) fun vs h2 tk2 hk2 hr => ?_) he hplain
  exact hc _ vs Q E (stays_trans hs (stays_trans hk hk2)) hr fun v h3 tk3 hk3 hv => k v h3 tk3 (stays_trans hk (stays_trans hk2 hk3)) hv
theorem Ev.max {a b : Int} {func l r : Expr} {pos : Pos} (hh : A.handled = Option.none) (hf : Ev prog w A env h₀ func (IsV (.builtin "max"))) (h1 : Ev prog w A env h₀ l (IsI a)) (h2 : Ev prog w A env h₀ r (IsI b))
    (hs : starEach [l, r] env = [(false, eval l env), (false, eval r env)] := by rfl) (hcall : eval (.Call func [l, r] [] pos) env = (do callWith pos (← eval func env) [] (backTo pos (starEach [l, r] env)) (backToKw pos (keywordEach [] env))) := by rfl) :
    Ev prog w A env h₀ (.Call func [l, r] [] pos) (IsI (Max.max a b)) := by
  have e2 : starEach [r] env = [(false, eval r env)] := by
    have : starEach [l, r] env = (starEach [l, r] env).head?.toList ++ starEach [r] env := by cases l <;> rfl
    rw [hs] at this; simpa using this.symm
  refine hf.callB (.two h1 h2 stab_i stab_i hs) (fun s vs Q E _ hr k => ?_) (by rw [hs, e2]) (by rw [e2]; rfl) hcall
  obtain ⟨_, _, rfl, ⟨t, rfl⟩, u, rfl⟩ := hr
  refine max_two_ints hh fun h' tk hk => ?_
  by_cases c : b > a
  · simp only [if_pos c]; exact k _ h' tk hk ⟨u, by rw [Int.max_eq_right (by omega)]⟩
  · simp only [if_neg c]; exact k _ h' tk hk ⟨t, by rw [Int.max_eq_left (by omega)]⟩
theorem Ev.min {a b : Int} {func l r : Expr} {pos : Pos} (hh : A.handled = Option.none) (hf : Ev prog w A env h₀ func (IsV (.builtin "min"))) (h1 : Ev prog w A env h₀ l (IsI a)) (h2 : Ev prog w A env h₀ r (IsI b))
    (hs : starEach [l, r] env = [(false, eval l env), (false, eval r env)] := by rfl) (hcall : eval (.Call func [l, r] [] pos) env = (do callWith pos (← eval func env) [] (backTo pos (starEach [l, r] env)) (backToKw pos (keywordEach [] env))) := by rfl) :
    Ev prog w A env h₀ (.Call func [l, r] [] pos) (IsI (Min.min a b)) := by
  have e2 : starEach [r] env = [(false, eval r env)] := by
    have : starEach [l, r] env = (starEach [l, r] env).head?.toList ++ starEach [r] env := by cases l <;> rfl
    rw [hs] at this; simpa using this.symm
  refine hf.callB (.two h1 h2 stab_i stab_i hs) (fun s vs Q E _ hr k => ?_) (by rw [hs, e2]) (by rw [e2]; rfl) hcall
  obtain ⟨_, _, rfl, ⟨t, rfl⟩, u, rfl⟩ := hr
  refine min_two_ints hh fun h' tk hk => ?_
  by_cases c : b < a
  · simp only [if_pos c]; exact k _ h' tk hk ⟨u, by rw [Int.min_eq_right (by omega)]⟩
  · simp only [if_neg c]; exact k _ h' tk hk ⟨t, by rw [Int.min_eq_left (by omega)]⟩

theorem Ev.tuple {es : List Expr} {k : Nat} {pos : Pos} {R3 : Heap → List Value → Prop} (ha : EvL prog w A env h₀ es R3) (hl : es.length ≤ 1000) (hlen : ∀ g vs, R3 g vs → vs.length = es.length)
    (hr : ∀ g g' vs a, g.StaysIn g' → R3 g vs → IsTup g' a vs.toArray → R g' (.ref a)) : Ev prog w A env h₀ (.Tuple es k pos) R := fun s Q E hs kk => by
  refine Tuple_ (ha pos s _ E hs fun vs h' tk hk hv => ?_)
  refine wpAny_newObj_type (kk _ _ tk (stays_trans hk (stays_push _ _)) (hr h' _ vs _ (stays_push _ _) hv ⟨_, Heap.get?_push_size _ rfl, rfl, 0, rfl⟩)) ?_
  have := hlen _ _ hv
  show vs.toArray.size ≤ sizeLine
  rw [List.size_toArray, this, sizeLine_eq]; omega
theorem Ev.list {es : List Expr} {pos : Pos} {R3 : Heap → List Value → Prop} (ha : EvL prog w A env h₀ es R3) (hl : es.length ≤ 1000) (hlen : ∀ g vs, R3 g vs → vs.length = es.length)
    (hr : ∀ g g' vs a, g.StaysIn g' → R3 g vs → g'.get? a = some { cls := .type "list", data := .seq vs.toArray } → R g' (.ref a)) : Ev prog w A env h₀ (.List es pos) R := fun s Q E hs kk => by
  refine List_ (ha pos s _ E hs fun vs h' tk hk hv => ?_)
  refine wpAny_newObj_type (kk _ _ tk (stays_trans hk (stays_push _ _)) (hr h' _ vs _ (stays_push _ _) hv (Heap.get?_push_size _ rfl))) ?_
  have := hlen _ _ hv
  show vs.toArray.size ≤ sizeLine
  rw [List.size_toArray, this, sizeLine_eq]; omega

theorem EvT.cmp {op : CmpOp} {l r : Expr} {pos : Pos} {b : Bool} (h1 : Ev prog w A env h₀ l R1) (h2 : Ev prog w A env h₀ r R2) (st : Stab R1)
    (hop : ∀ (s : Shared) (x y : Value) (Q : Value → Shared → Prop) (E : Value → Shared → Prop), h₀.StaysIn s.heap → R1 s.heap x → R2 s.heap y → (∀ h' tk, s.heap.StaysIn h' → Q (.bool b) { s with heap := h', toks := tk }) → wpAny (model prog w) A (compareOp op x y) Q E s)
    (hm : behindInMarks op r = false := by with_unfolding_all rfl) : EvT prog w A env h₀ (.Compare l [op] [r] pos) b := fun s Q E hs k => by
  refine wpAny_isTrue_Compare1 (h1 s _ E hs fun a ha tk1 hk1 r1 => h2 _ _ E (stays_trans hs hk1) fun b hb tk2 hk2 r2 => ?_) hm
  refine hop _ a b _ E (stays_trans hs (stays_trans hk1 hk2)) (st _ _ _ hk2 r1) r2 fun h' tk hk => ?_
  exact wpAny_truthy_bool (k h' tk (stays_trans hk1 (stays_trans hk2 hk)))
theorem EvT.le {a b : Int} {l r : Expr} {pos : Pos} (h1 : Ev prog w A env h₀ l (IsI a)) (h2 : Ev prog w A env h₀ r (IsI b)) (hm : behindInMarks .LtE r = false := by with_unfolding_all rfl) : EvT prog w A env h₀ (.Compare l [.LtE] [r] pos) (decide (a ≤ b)) :=
  .cmp h1 h2 stab_i (fun s x y Q E _ hx hy k => by obtain ⟨t, rfl⟩ := hx; obtain ⟨u, rfl⟩ := hy; exact le_int (k s.heap s.toks (stays_refl _))) hm
theorem EvT.ge {a b : Int} {l r : Expr} {pos : Pos} (h1 : Ev prog w A env h₀ l (IsI a)) (h2 : Ev prog w A env h₀ r (IsI b)) (hm : behindInMarks .GtE r = false := by with_unfolding_all rfl) : EvT prog w A env h₀ (.Compare l [.GtE] [r] pos) (decide (b ≤ a)) :=
  .cmp h1 h2 stab_i (fun s x y Q E _ hx hy k => by obtain ⟨t, rfl⟩ := hx; obtain ⟨u, rfl⟩ := hy; exact ge_int (k s.heap s.toks (stays_refl _))) hm
theorem EvT.lt {a b : Int} {l r : Expr} {pos : Pos} (h1 : Ev prog w A env h₀ l (IsI a)) (h2 : Ev prog w A env h₀ r (IsI b)) (hm : behindInMarks .Lt r = false := by with_unfolding_all rfl) : EvT prog w A env h₀ (.Compare l [.Lt] [r] pos) (decide (a < b)) :=
  .cmp h1 h2 stab_i (fun s x y Q E _ hx hy k => by obtain ⟨t, rfl⟩ := hx; obtain ⟨u, rfl⟩ := hy; exact PyProof.Rows.lt_int (k s.heap s.toks (stays_refl _))) hm
theorem EvT.gt {a b : Int} {l r : Expr} {pos : Pos} (h1 : Ev prog w A env h₀ l (IsI a)) (h2 : Ev prog w A env h₀ r (IsI b)) (hm : behindInMarks .Gt r = false := by with_unfolding_all rfl) : EvT prog w A env h₀ (.Compare l [.Gt] [r] pos) (decide (b < a)) :=
  .cmp h1 h2 stab_i (fun s x y Q E _ hx hy k => by obtain ⟨t, rfl⟩ := hx; obtain ⟨u, rfl⟩ := hy; exact PyProof.Rows.gt_int (k s.heap s.toks (stays_refl _))) hm
theorem EvT.eq {a b : Int} {l r : Expr} {pos : Pos} (h1 : Ev prog w A env h₀ l (IsI a)) (h2 : Ev prog w A env h₀ r (IsI b)) (hm : behindInMarks .Eq r = false := by with_unfolding_all rfl) : EvT prog w A env h₀ (.Compare l [.Eq] [r] pos) (a == b) :=
  .cmp h1 h2 stab_i (fun s x y Q E _ hx hy k => by obtain ⟨t, rfl⟩ := hx; obtain ⟨u, rfl⟩ := hy; exact PyProof.Rows.eq_int (k s.heap s.toks (stays_refl _))) hm
end
end Mine
end
section -- Q2
open PySem PySem.W PyProof.Rows PySem.Calls
set_option maxRecDepth 100000
set_option maxHeartbeats 4000000
set_option linter.unusedVariables false
namespace Mine

/-- tuples stay as they are -/
def TL (h h' : Heap) : Prop := ∀ b o items n, h.get? b = some o → o.cls = .type "tuple" → o.data = .seq items n → h'.get? b = some o
theorem TL.refl (h : Heap) : TL h h := fun _ _ _ _ e _ _ => e
theorem TL.trans {a b c : Heap} (x : TL a b) (y : TL b c) : TL a c := fun _ _ _ _ e hc hd => y _ _ _ _ (x _ _ _ _ e hc hd) hc hd
theorem TL.of {h h' : Heap} (x : h.StaysIn h') : TL h h' := fun _ _ _ _ e _ _ => x _ _ e
def NoTup (h : Heap) (a : Addr) : Prop := ∀ o, h.get? a = some o → o.cls = .type "tuple" → ∀ items n, o.data ≠ .seq items n
theorem TL.but {h h' : Heap} {a : Addr} (x : ∀ b o, b ≠ a → h.get? b = some o → h'.get? b = some o) (n : NoTup h a) : TL h h' := fun b o items k e hc hd =>
  x b o (fun q => n o (q ▸ e) hc items k hd) e
theorem TL.but2 {h h' : Heap} {a c : Addr} (x : ∀ b o, b ≠ a → b ≠ c → h.get? b = some o → h'.get? b = some o) (n : NoTup h a) (n2 : NoTup h c) : TL h h' := fun b o items k e hc hd =>
  x b o (fun q => n o (q ▸ e) hc items k hd) (fun q => n2 o (q ▸ e) hc items k hd) e
theorem noTup_ns {h : Heap} {a : Addr} {m : Str → Option Value} (x : h.Ns a m) : NoTup h a := by
  obtain ⟨o, es, ep, ho, hd, _⟩ := x
  intro o' ho' _ items n hd'
  rw [ho] at ho'; cases ho'; rw [hd] at hd'; cases hd'
theorem noTup_list {h : Heap} {a : Addr} {its : Array Value} (x : h.IsList a its) : NoTup h a := by
  obtain ⟨o, ho, hc, _⟩ := x
  intro o' ho' hc' _ _ _
  rw [ho] at ho'; cases ho'; rw [hc] at hc'; exact absurd hc' (by decide)
theorem noTup_none {h : Heap} {a : Addr} (x : h.get? a = none) : NoTup h a := fun o ho => by rw [x] at ho; cases ho
theorem tup_tl {h h' : Heap} {a : Addr} {its : Array Value} (x : IsTup h a its) (t : TL h h') : IsTup h' a its := by
  obtain ⟨o, ho, hc, n, hd⟩ := x
  exact ⟨o, t _ _ _ _ ho hc hd, hc, n, hd⟩

/-- relations that only lean on tuples -/
def TStab {α : Type} (R : α → Heap → Value → Prop) : Prop := ∀ x h h' v, TL h h' → R x h v → R x h' v
theorem TStab.stab {α : Type} {R : α → Heap → Value → Prop} (t : TStab R) (x : α) : Stab (R x) := fun h h' v hs hr => t x h h' v (.of hs) hr
theorem tstab_i : TStab IsI := fun _ _ _ _ _ h => h
def IsP (x : Int × Int) (h : Heap) (v : Value) : Prop := ∃ a t1 t2, v = .ref a ∧ IsTup h a #[.int x.1 t1, .int x.2 t2]
theorem tstab_p : TStab IsP := fun x h h' v t ⟨a, t1, t2, e, hp⟩ => ⟨a, t1, t2, e, tup_tl hp t⟩

def All2 {α : Type} (R : α → Heap → Value → Prop) (h : Heap) : List α → List Value → Prop
  | [], [] => True
  | x :: xs, v :: vs => R x h v ∧ All2 R h xs vs
  | _, _ => False
section
variable {α : Type} {R : α → Heap → Value → Prop} {h h' : Heap} {xs ys : List α} {vs ws : List Value}
theorem All2.tl (st : TStab R) (t : TL h h') : ∀ {xs : List α} {vs : List Value}, All2 R h xs vs → All2 R h' xs vs
  | [], [], _ => trivial
  | _ :: _, _ :: _, ⟨a, b⟩ => ⟨st _ _ _ _ t a, All2.tl st t b⟩
  | [], _ :: _, x => x.elim
  | _ :: _, [], x => x.elim
theorem All2.len : ∀ {xs : List α} {vs : List Value}, All2 R h xs vs → vs.length = xs.length
  | [], [], _ => rfl
  | _ :: _, _ :: _, ⟨_, b⟩ => by simp [All2.len b]
  | [], _ :: _, x => x.elim
  | _ :: _, [], x => x.elim
theorem All2.append : ∀ {xs : List α} {vs : List Value}, All2 R h xs vs → All2 R h ys ws → All2 R h (xs ++ ys) (vs ++ ws)
  | [], [], _, k => k
  | _ :: _, _ :: _, ⟨a, b⟩, k => ⟨a, All2.append b k⟩
  | [], _ :: _, x, _ => x.elim
  | _ :: _, [], x, _ => x.elim
theorem All2.get : ∀ {xs : List α} {vs : List Value} {i : Nat} {x : α}, All2 R h xs vs → xs[i]? = some x → ∃ v, vs[i]? = some v ∧ R x h v
  | [], [], _, _, _, e => by simp at e
  | _ :: _, v :: _, 0, _, ⟨a, b⟩, e => ⟨v, rfl, by simp at e; exact e ▸ a⟩
  | _ :: _, _ :: _, i + 1, _, ⟨a, b⟩, e => by simpa using All2.get b (by simpa using e)
  | [], _ :: _, _, _, x, _ => x.elim
  | _ :: _, [], _, _, x, _ => x.elim
theorem All2.get' : ∀ {xs : List α} {vs : List Value} {i : Nat} {v : Value}, All2 R h xs vs → vs[i]? = some v → ∃ x, xs[i]? = some x ∧ R x h v
  | [], [], _, _, _, e => by simp at e
  | x :: _, v :: _, 0, _, ⟨a, b⟩, e => ⟨x, rfl, by simp at e; exact e ▸ a⟩
  | _ :: _, _ :: _, i + 1, _, ⟨a, b⟩, e => by simpa using All2.get' b (by simpa using e)
  | [], _ :: _, _, _, x, _ => x.elim
  | _ :: _, [], _, _, x, _ => x.elim
theorem All2.snoc {x : α} {v : Value} (k : All2 R h xs vs) (r : R x h v) : All2 R h (xs ++ [x]) (vs ++ [v]) := k.append ⟨r, trivial⟩
theorem All2.snoc_inv {x : α} : ∀ {xs : List α} {vs : List Value}, All2 R h (xs ++ [x]) vs → ∃ vs' v, vs = vs' ++ [v] ∧ All2 R h xs vs' ∧ R x h v
  | [], [v], ⟨a, _⟩ => ⟨[], v, rfl, trivial, a⟩
  | [], _ :: _ :: _, ⟨_, b⟩ => b.elim
  | _ :: _, w :: _, ⟨a, b⟩ => by
    obtain ⟨vs', v, e, k, r⟩ := All2.snoc_inv b
    exact ⟨w :: vs', v, by rw [e]; rfl, ⟨a, k⟩, r⟩
  | [], [], x => x.elim
  | _ :: _, [], x => x.elim
theorem All2.rev : ∀ {xs : List α} {vs : List Value}, All2 R h xs vs → All2 R h xs.reverse vs.reverse
  | [], [], _ => trivial
  | _ :: _, _ :: _, ⟨a, b⟩ => by rw [List.reverse_cons, List.reverse_cons]; exact (All2.rev b).snoc a
  | [], _ :: _, x => x.elim
  | _ :: _, [], x => x.elim
end

/-- a tuple | a list of such things -/
def IsT {α : Type} (R : α → Heap → Value → Prop) (xs : List α) (h : Heap) (v : Value) : Prop := ∃ a vs, v = .ref a ∧ IsTup h a vs.toArray ∧ All2 R h xs vs
def IsL {α : Type} (R : α → Heap → Value → Prop) (xs : List α) (h : Heap) (v : Value) : Prop := ∃ a vs, v = .ref a ∧ h.IsList a vs.toArray ∧ All2 R h xs vs
theorem tstab_t {α : Type} {R : α → Heap → Value → Prop} (st : TStab R) : TStab (IsT R) := fun _ _ _ _ t ⟨a, vs, e, k, r⟩ => ⟨a, vs, e, tup_tl k t, r.tl st t⟩
theorem stab_t {α : Type} {R : α → Heap → Value → Prop} (st : TStab R) (xs : List α) : Stab (IsT R xs) := (tstab_t st).stab xs
theorem stab_l {α : Type} {R : α → Heap → Value → Prop} (st : TStab R) (xs : List α) : Stab (IsL R xs) := fun _ _ _ hs ⟨a, vs, e, ⟨o, ho, r1⟩, r⟩ => ⟨a, vs, e, ⟨o, hs _ _ ho, r1⟩, r.tl st (.of hs)⟩
abbrev Dm := List (Int × Int)

/-- what a loop runs over -/
def Src {α : Type} (prog : Program) (w : World) (A : Around) (R : α → Heap → Value → Prop) (xs : List α) (h₀ : Heap) (xv : Value) : Prop :=
  ∀ (s : Shared) (Q : Value → Shared → Prop) (E : Value → Shared → Prop), h₀.StaysIn s.heap →
    (∀ (I : Addr) (fp : List Addr) (P : Nat → Value → Prop) (St : Nat → Heap → Prop) (h' : Heap), Walks prog w A I fp [I] xs.length P St → St 0 h' → s.heap.StaysIn h' → s.heap.get? I = none → (∀ b ∈ fp, b < h'.objs.size) →
      (∀ i h, St i h → ∃ o fs, h.get? I = some o ∧ o.data = .fields fs) → (∀ b ∈ fp, b = I ∨ xv = .ref b) →
      (∀ i v, P i v → ∃ x, xs[i]? = some x ∧ ∀ g, TL h₀ g → R x g v) →
      (∀ i (s' : Shared) (elts : List Expr) (k : Nat) (pos : Pos) (v : Value) (Q' : Unit → Shared → Prop) (E' : Value → Shared → Prop), St i s'.heap → Q' () s' → wpAny (model prog w) A (letOwnedTupleGo (.Tuple elts k pos) (.ref I) v) Q' E' s') →
      Q (.ref I) { s with heap := h' }) → wpAny (model prog w) A (pyIter xv) Q E s

theorem go_plain {M : Model} {A : Around} {E : Value → Shared → Prop} {s : Shared} {elts : List Expr} {k : Nat} {pos : Pos} {I : Addr} {v : Value} {Q : Unit → Shared → Prop} {o : Obj} {T : String} (ho : s.heap.get? I = some o) (hc : o.cls = .type T)
    (hT : (["enumerate", "zip", "dict_itemiterator", "dict_reverseitemiterator", "odict_iterator", "itertools.zip_longest", "itertools.pairwise"] : List String).contains T = false) (h : Q () s) :
    wpAny M A (letOwnedTupleGo (.Tuple elts k pos) (.ref I) v) Q E s := by
  unfold letOwnedTupleGo
  cases v <;> first | exact wpAny_pure h | skip
  refine wpAny_bind (wpAny_load ho ?_)
  rw [hc]
  cases hd : o.data <;> first | exact wpAny_pure h | skip
  dsimp only
  rw [hT, Bool.false_and, if_neg (by simp)]
  exact wpAny_pure h

section
variable {α : Type} {prog : Program} {w : World} {A : Around} {R : α → Heap → Value → Prop} {xs : List α} {h₀ : Heap} {v : Value}
theorem src_tuple (hh : A.handled = none) (st : TStab R) (x : IsT R xs h₀ v) : Src prog w A R xs h₀ v := by
  obtain ⟨a, vs, rfl, ht, hr⟩ := x
  intro s Q E hs k
  have ht' : s.heap.IsTuple a vs.toArray := ht.keeps hs
  refine wpAny_pyIter_tuple ht' ?_
  have hlt : a < s.heap.objs.size := by obtain ⟨o, ho, _⟩ := ht'; exact Heap.lt_size ho
  have hn : vs.toArray.size = xs.length := by simp [hr.len]
  have W := Walks.tuple (prog := prog) (w := w) hh s.heap.objs.size a (Nat.ne_of_lt hlt) vs.toArray
  rw [hn] at W
  refine k _ _ _ _ _ W ⟨⟨_, Heap.get?_push_size _ rfl, rfl, rfl⟩, ht'.at fun o e => Heap.get?_push_of_some _ e⟩ (stays_push _ _) (Heap.get?_none_of_le (Nat.le_refl _)) ?_ ?_ ?_ ?_ ?_
  · intro b hb
    rw [Heap.size_push]
    rcases List.mem_cons.mp hb with rfl | hb
    · exact Nat.lt_succ_self _
    · rw [List.mem_singleton.mp hb]; exact Nat.lt_succ_of_lt hlt
  · rintro i h ⟨⟨o, ho, hc, hd⟩, _⟩
    exact ⟨o, _, ho, hd⟩
  · intro b hb
    rcases List.mem_cons.mp hb with rfl | hb
    · exact .inl rfl
    · rw [List.mem_singleton.mp hb]; exact .inr rfl
  · intro i v hv
    obtain ⟨x, hx, hr'⟩ := hr.get' (show vs[i]? = some v by simpa using hv)
    exact ⟨x, hx, fun g t => st _ _ _ _ t hr'⟩
  · rintro i s' elts kk pos v Q' E' ⟨⟨o, ho, hc, hd⟩, _⟩ hq
    exact go_plain ho hc (by decide) hq
theorem src_list (hh : A.handled = none) (st : TStab R) (x : IsL R xs h₀ v) : Src prog w A R xs h₀ v := by
  obtain ⟨a, vs, rfl, ⟨ol, hol, hl1, hl2⟩, hr⟩ := x
  intro s Q E hs k
  have ht' : s.heap.IsList a vs.toArray := ⟨ol, hs _ _ hol, hl1, hl2⟩
  refine wpAny_pyIter_list ht' ?_
  have hlt : a < s.heap.objs.size := by obtain ⟨o, ho, _⟩ := ht'; exact Heap.lt_size ho
  have hn : vs.toArray.size = xs.length := by simp [hr.len]
  have W := Walks.list (prog := prog) (w := w) hh s.heap.objs.size a (Nat.ne_of_lt hlt) vs.toArray
  rw [hn] at W
  refine k _ _ _ _ _ W ⟨⟨_, Heap.get?_push_size _ rfl, rfl, rfl⟩, ht'.at fun o e => Heap.get?_push_of_some _ e⟩ (stays_push _ _) (Heap.get?_none_of_le (Nat.le_refl _)) ?_ ?_ ?_ ?_ ?_
  · intro b hb
    rw [Heap.size_push]
    rcases List.mem_cons.mp hb with rfl | hb
    · exact Nat.lt_succ_self _
    · rw [List.mem_singleton.mp hb]; exact Nat.lt_succ_of_lt hlt
  · rintro i h ⟨⟨o, ho, hc, hd⟩, _⟩
    exact ⟨o, _, ho, hd⟩
  · intro b hb
    rcases List.mem_cons.mp hb with rfl | hb
    · exact .inl rfl
    · rw [List.mem_singleton.mp hb]; exact .inr rfl
  · intro i v hv
    obtain ⟨x, hx, hr'⟩ := hr.get' (show vs[i]? = some v by simpa using hv)
    exact ⟨x, hx, fun g t => st _ _ _ _ t hr'⟩
  · rintro i s' elts kk pos v Q' E' ⟨⟨o, ho, hc, hd⟩, _⟩ hq
    exact go_plain ho hc (by decide) hq
end

/-- how a target binds an item -/
def Binds {α : Type} (prog : Program) (w : World) (A : Around) (env : Env) (R : α → Heap → Value → Prop) (target : Expr) (Tg : α → (Str → Option Value) → Prop) (upd : (Str → Option Value) → (Str → Option Value) → Prop) : Prop :=
  ∀ (x : α) (v : Value) (m : Str → Option Value) (s : Shared) (Q : Unit → Shared → Prop) (E : Value → Shared → Prop), R x s.heap v → s.heap.Ns env.locals m →
    (∀ h' tk m', h'.Ns env.locals m' → Tg x m' → upd m m' → (∀ b o, b ≠ env.locals → s.heap.get? b = some o → h'.get? b = some o) → Q () { s with heap := h', toks := tk }) → wpAny (model prog w) A (assign target env v) Q E s
section
variable {α : Type} {prog : Program} {w : World} {A : Around} {env : Env} {R : α → Heap → Value → Prop}
theorem binds_name {x : Str} {pos : Pos} (hl : env.kindOf x = some .local) (hp : (env.scope.kind == .class || (env.scope.kind == .module && env.locals != env.globals)) = false) (st : TStab R) :
    Binds prog w A env R (.Name x pos) (fun z m => ∃ v, m x = some v ∧ ∀ (h : Heap), (∃ h0, R z h0 v ∧ TL h0 h) → R z h v) (fun m m' => ∀ y, y ≠ x → m' y = m y) := by
  intro z v m s Q E hr hn k
  refine wpAny_assign_Name (wpAny_storeName_local hl hn (fun h' hn' hs' => ?_) hp)
  exact k h' _ _ hn' ⟨v, by simp, fun h ⟨h0, r0, t0⟩ => st _ _ _ _ t0 r0⟩ (fun y hy => by simp [hy]) hs'.extBut
/-- an int bound to a name -/
theorem binds_int {x : Str} {pos : Pos} (hl : env.kindOf x = some .local) (hp : (env.scope.kind == .class || (env.scope.kind == .module && env.locals != env.globals)) = false) :
    Binds prog w A env IsI (.Name x pos) (fun z m => ∃ t, m x = some (.int z t)) (fun m m' => ∀ y, y ≠ x → m' y = m y) := by
  intro z v m s Q E hr hn k
  obtain ⟨t, rfl⟩ := hr
  refine wpAny_assign_Name (wpAny_storeName_local hl hn (fun h' hn' hs' => ?_) hp)
  exact k h' _ _ hn' ⟨t, by simp⟩ (fun y hy => by simp [hy]) hs'.extBut
/-- a pair bound to two names -/
theorem binds_pair {x y : Str} {px py pos : Pos} {k : Nat} (hh : A.handled = none) (hx : env.kindOf x = some .local) (hy : env.kindOf y = some .local) (hxy : x ≠ y) (hp : (env.scope.kind == .class || (env.scope.kind == .module && env.locals != env.globals)) = false) :
    Binds prog w A env IsP (.Tuple [.Name x px, .Name y py] k pos) (fun z m => ∃ t u, m x = some (.int z.1 t) ∧ m y = some (.int z.2 u)) (fun m m' => ∀ q, q ≠ x → q ≠ y → m' q = m q) := by
  intro z v m s Q E hr hn kk
  obtain ⟨a, t, u, rfl, ht⟩ := hr
  refine assign_Tuple_tuple hh ht rfl rfl fun h₁ he₁ => ?_
  have hlt := hn.lt
  have hn₁ : h₁.Ns env.locals m := hn.at' fun o e => he₁ _ o (Nat.ne_of_lt hlt) e
  refine assignInOrder_cons (wpAny_assign_Name (wpAny_storeName_local hx hn₁ (fun h₂ hn₂ hs₂ => ?_) hp))
  refine assignInOrder_cons (wpAny_assign_Name (wpAny_storeName_local hy hn₂ (fun h₃ hn₃ hs₃ => ?_) hp))
  refine assignInOrder_nil ?_
  refine kk h₃ _ _ hn₃ ⟨t, u, by simp [hxy], by simp⟩ (fun q h1 h2 => by simp [h1, h2]) fun b o hb e => hs₃.extBut b o hb (hs₂.extBut b o hb (he₁ b o (Nat.ne_of_lt (Heap.lt_size e)) e))
end

end Mine
end
section -- Q3
open PySem PySem.W PyProof.Rows PySem.Calls
set_option maxRecDepth 100000
set_option maxHeartbeats 4000000
set_option linter.unusedVariables false
namespace Mine

theorem length_take_flatMap {α γ : Type} (g : α → List γ) : ∀ (i : Nat) (xs : List α), ((xs.take i).flatMap g).length ≤ (xs.flatMap g).length
  | 0, xs => by simp
  | i + 1, [] => by simp
  | i + 1, x :: xs => by
    have := length_take_flatMap g i xs
    simp only [List.take_succ_cons, List.flatMap_cons, List.length_append]; omega

/-- what a turn hands on -/
abbrev Kp (C D : Addr) (h h' : Heap) : Prop := ∀ b o, b ≠ C → b ≠ D → h.get? b = some o → h'.get? b = some o

section
variable {α γ : Type} {prog : Program} {w : World} {A : Around} {RS : α → Heap → Value → Prop} {Ro : γ → Heap → Value → Prop}
theorem comp_loop {elt : Expr} {gens : List Comprehension} {scope : Scope} {pos q : Pos} {d : Nat} {target : Expr} {cenv : Env} {I C D : Addr} {items : List α} {g : α → List γ} {hs : Heap} {fp : List Addr} {P : Nat → Value → Prop} {St : Nat → Heap → Prop}
    {Tg : α → (Str → Option Value) → Prop} {upd : (Str → Option Value) → (Str → Option Value) → Prop} {Mi : (Str → Option Value) → Prop} {R : Result → Shared → Prop} {s₀ : Shared} {m₀ : Str → Option Value} {ys₀ : List Value} {out₀ : List γ} {body : Sem Unit} {B : Nat}
    (hturn : compTurn (.ListComp elt gens scope pos) d (.ref I) (.ref D) cenv = (standAt q >>= fun _ => pyNext (.ref I) >>= fun r => match r with
      | none => pure (.done .next)
      | some v => letOwnedTupleGo target (.ref I) v >>= fun _ => assign target cenv v >>= fun _ => body >>= fun _ => again (.compLoop (.ListComp elt gens scope pos) d (.ref I) (.ref D) cenv)))
    (hC : cenv.locals = C) (W : Walks prog w A I fp [I] items.length P St) (hst : St 0 s₀.heap) (hI : hs.get? I = none) (hfpC : C ∉ fp) (hfpD : D ∉ fp) (hCD : C ≠ D)
    (hit : ∀ i v, P i v → ∃ x, items[i]? = some x ∧ ∀ h, TL hs h → RS x h v)
    (hgo : ∀ i (s' : Shared) (v : Value) (Q' : Unit → Shared → Prop) (E' : Value → Shared → Prop), St i s'.heap → Q' () s' → wpAny (model prog w) A (letOwnedTupleGo target (.ref I) v) Q' E' s')
    (hInt : ∀ i h, St i h → NoTup h I) (stO : TStab Ro)
    (hb : Binds prog w A cenv RS target Tg upd) (hMi : ∀ m m', Mi m → upd m m' → Mi m') (hnC : NoTup hs C) (hnD : NoTup hs D)
    (hB : out₀.length + (items.flatMap g).length ≤ B)
    (step : ∀ (x : α) (s : Shared) (m : Str → Option Value) (ys : List Value) (out : List γ) (Q : Unit → Shared → Prop), x ∈ items → Kp C D hs s.heap → s.heap.Ns C m → Tg x m → Mi m → s.heap.IsList D ys.toArray → All2 Ro s.heap out ys → out.length + (g x).length ≤ B →
      (∀ h' tk m' ys', Kp C D s.heap h' → h'.Ns C m' → Mi m' → h'.IsList D ys'.toArray → All2 Ro h' (out ++ g x) ys' → Q () { s with heap := h', toks := tk }) → wpAny (model prog w) A body Q (fun _ _ => False) s)
    (hk : Kp C D hs s₀.heap) (hn : s₀.heap.Ns C m₀) (hm : Mi m₀) (hD : s₀.heap.IsList D ys₀.toArray) (hys : All2 Ro s₀.heap out₀ ys₀)
    (fin : ∀ h' tk m' ys', Kp C D hs h' → h'.Ns C m' → Mi m' → h'.IsList D ys'.toArray → All2 Ro h' (out₀ ++ items.flatMap g) ys' → R (.ok .next) { s₀ with heap := h', toks := tk }) :
    codeAny (model prog w) A (.compLoop (.ListComp elt gens scope pos) d (.ref I) (.ref D) cenv) R s₀ := by
  subst hC
  have hIfp : I ∈ fp := W.sub I (List.mem_singleton.mpr rfl)
  have hCI : cenv.locals ≠ I := fun e => hfpC (e ▸ hIfp)
  have hDI : D ≠ I := fun e => hfpD (e ▸ hIfp)
  refine codeAny_loop rfl
    (fun k s' => ∃ i h tk m ys, s' = { s₀ with heap := h, toks := tk } ∧ i ≤ items.length ∧ k = items.length + 1 - i ∧ St i h ∧ Kp cenv.locals D hs h ∧ h.Ns cenv.locals m ∧ Mi m ∧ h.IsList D ys.toArray ∧ All2 Ro h (out₀ ++ (items.take i).flatMap g) ys) ?_ (items.length + 1)
    ⟨0, s₀.heap, s₀.toks, m₀, ys₀, rfl, Nat.zero_le _, rfl, hst, hk, hn, hm, hD, by simpa using hys⟩
  rintro k s' ⟨i, h, tk, m, ys, rfl, hi, rfl, hst', hk', hn', hm', hD', hys'⟩
  show wpAny _ A ((compTurn (.ListComp elt gens scope pos) d (.ref I) (.ref D) cenv).onRaise (fun x => do noteFrame x cenv; theTreesLotGoes x)) _ _ _
  refine wpAny_noted (wpAny_noRaise ?_)
  rw [hturn]
  refine wpAny_bind (wpAny_standAt (wpAny_bind ?_))
  have hTLs : TL hs h := TL.but2 hk' hnC hnD
  by_cases hlt : i < items.length
  · refine W.item i _ _ _ hlt hst' fun v h₁ tk₁ hP hst₁ hk₁ => ?_
    have kp₁ : Kp cenv.locals D hs h₁ := fun b o b1 b2 e => hk₁ b o (fun q => by rw [List.mem_singleton.mp q, hI] at e; cases e) (hk' b o b1 b2 e)
    have tl₁ : TL h h₁ := TL.but (a := I) (fun b o hb e => hk₁ b o (fun q => hb (List.mem_singleton.mp q)) e) (hInt _ _ hst')
    have hn₁ : h₁.Ns cenv.locals m := hn'.at' fun o e => hk₁ _ o (fun q => hCI (List.mem_singleton.mp q)) e
    have hD₁ : h₁.IsList D ys.toArray := by obtain ⟨o, ho, r⟩ := hD'; exact ⟨o, hk₁ _ o (fun q => hDI (List.mem_singleton.mp q)) ho, r⟩
    obtain ⟨x, hx, hrs⟩ := hit i v hP
    refine wpAny_bind (hgo _ _ _ _ _ hst₁ ?_)
    refine wpAny_bind (hb x v m _ _ _ (hrs _ (hTLs.trans tl₁)) hn₁ fun h₂ tk₂ m₂ hn₂ htg hupd hk₂ => ?_)
    have tl₂ : TL h₁ h₂ := TL.but hk₂ (noTup_ns hn₁)
    have hDC : D ≠ cenv.locals := fun e => hCD e.symm
    have hD₂ : h₂.IsList D ys.toArray := by obtain ⟨o, ho, r⟩ := hD₁; exact ⟨o, hk₂ _ o hDC ho, r⟩
    have hmem : x ∈ items := List.mem_of_getElem? hx
    have htake : items.take (i + 1) = items.take i ++ [x] := by simp [List.take_add_one, hx]
    have hlen : ((items.take i).flatMap g).length + (g x).length ≤ (items.flatMap g).length := by
      have := length_take_flatMap g (i + 1) items
      rw [htake, List.flatMap_append] at this
      simpa using this
    refine wpAny_bind (step x _ m₂ ys _ _ hmem (fun b o b1 b2 e => hk₂ b o b1 (kp₁ b o b1 b2 e)) hn₂ htg (hMi _ _ hm' hupd) hD₂ (hys'.tl stO (tl₁.trans tl₂)) (by simp only [List.length_append]; omega) fun h₃ tk₃ m₃ ys₃ hk₃ hn₃ hm₃ hD₃ hys₃ => ?_)
    refine wpAny_pure ⟨rfl, items.length + 1 - (i + 1), by omega, i + 1, h₃, tk₃, m₃, ys₃, rfl, hlt, rfl, ?_, fun b o b1 b2 e => hk₃ b o b1 b2 (hk₂ b o b1 (kp₁ b o b1 b2 e)), hn₃, hm₃, hD₃, ?_⟩
    · exact W.frame _ _ _ hst₁ fun b hb o e => hk₃ b o (fun q => hfpC (q ▸ hb)) (fun q => hfpD (q ▸ hb)) (hk₂ b o (fun q => hfpC (q ▸ hb)) e)
    · rw [htake, List.flatMap_append, ← List.append_assoc]
      simpa using hys₃
  · have hin : i = items.length := by omega
    subst hin
    rw [List.take_length] at hys'
    refine W.done _ _ _ hst' fun h₁ tk₁ hk₁ => wpAny_pure ?_
    refine fin h₁ tk₁ m ys (fun b o b1 b2 e => hk₁ b o (fun q => by rw [List.mem_singleton.mp q, hI] at e; cases e) (hk' b o b1 b2 e)) (hn'.at' fun o e => hk₁ _ o (fun q => hCI (List.mem_singleton.mp q)) e) hm' ?_ (hys'.tl stO (TL.but (a := I) (fun b o hb e => hk₁ b o (fun q => hb (List.mem_singleton.mp q)) e) (hInt _ _ hst')))
    obtain ⟨o, ho, r⟩ := hD'; exact ⟨o, hk₁ _ o (fun q => hDI (List.mem_singleton.mp q)) ho, r⟩
end
def testsOf (ifs : List Expr) (env : Env) : Sem Bool := forIn ifs true fun c r => if r = true then do let ok ← isTrue c env (eval c env); pure (ForInStep.yield ok) else pure (ForInStep.yield r)
def emitOf (elt : Expr) (acc : Value) (env : Env) : Sem Unit := do let _ ← call (.builtin "list.append") [acc, ← eval elt env]
def body1 (elt : Expr) (ifs : List Expr) (acc : Value) (env : Env) : Sem Unit := testsOf ifs env >>= fun ok => if ok then emitOf elt acc env else pure ()
theorem turn1 (elt target iter : Expr) (ifs : List Expr) (scope : Scope) (pos : Pos) (it acc : Value) (env : Env) :
    compTurn (.ListComp elt [⟨target, iter, ifs, 0⟩] scope pos) 0 it acc env = (standAt iter.pos >>= fun _ => pyNext it >>= fun r => match r with
      | none => pure (.done .next)
      | some v => letOwnedTupleGo target it v >>= fun _ => assign target env v >>= fun _ => body1 elt ifs acc env >>= fun _ => again (.compLoop (.ListComp elt [⟨target, iter, ifs, 0⟩] scope pos) 0 it acc env)) := by
  unfold compTurn
  dsimp only [List.getElem?_cons_zero, List.getElem?_cons_succ]
  show (standAt iter.pos >>= fun _ => pyNext it >>= _) = _
  congr 1; funext _; congr 1; funext r
  cases r with
  | none => rfl
  | some v =>
    dsimp only
    congr 1; funext _; congr 1; funext _
    unfold body1 testsOf emitOf
    simp only [bind_assoc]
    congr 1; funext ok
    cases ok <;> simp [bind_assoc, pure_bind]
def body2 (e : Expr) (g' : Comprehension) (ifs : List Expr) (acc : Value) (env : Env) : Sem Unit := testsOf ifs env >>= fun ok => if ok then (do
        let x ← eval g'.iter env
        standAt g'.iter.pos
        let x ← foldedSetIterable g'.iter env x
        let _ ← runOwn (.compStart e 1 (← holding [x] (pyIter x)) acc env) env) else pure ()
theorem turn2 (elt target iter target' iter' : Expr) (ifs ifs' : List Expr) (scope : Scope) (pos : Pos) (it acc : Value) (env : Env) :
    compTurn (.ListComp elt [⟨target, iter, ifs, 0⟩, ⟨target', iter', ifs', 0⟩] scope pos) 0 it acc env = (standAt iter.pos >>= fun _ => pyNext it >>= fun r => match r with
      | none => pure (.done .next)
      | some v => letOwnedTupleGo target it v >>= fun _ => assign target env v >>= fun _ => body2 (.ListComp elt [⟨target, iter, ifs, 0⟩, ⟨target', iter', ifs', 0⟩] scope pos) ⟨target', iter', ifs', 0⟩ ifs acc env >>= fun _ => again (.compLoop (.ListComp elt [⟨target, iter, ifs, 0⟩, ⟨target', iter', ifs', 0⟩] scope pos) 0 it acc env)) := by
  unfold compTurn
  dsimp only [List.getElem?_cons_zero, List.getElem?_cons_succ]
  show (standAt iter.pos >>= fun _ => pyNext it >>= _) = _
  congr 1; funext _; congr 1; funext r
  cases r with
  | none => rfl
  | some v =>
    dsimp only
    congr 1; funext _; congr 1; funext _
    unfold body2 testsOf
    rw [bind_assoc]
    congr 1; funext ok
    cases ok with
    | false => rfl
    | true =>
      simp only [if_true, bne_self_eq_false, Bool.false_eq_true, if_false, bind_assoc, pure_bind]
theorem turn2' (elt target iter target' iter' : Expr) (ifs ifs' : List Expr) (scope : Scope) (pos : Pos) (it acc : Value) (env : Env) :
    compTurn (.ListComp elt [⟨target, iter, ifs, 0⟩, ⟨target', iter', ifs', 0⟩] scope pos) 1 it acc env = (standAt iter'.pos >>= fun _ => pyNext it >>= fun r => match r with
      | none => pure (.done .next)
      | some v => letOwnedTupleGo target' it v >>= fun _ => assign target' env v >>= fun _ => body1 elt ifs' acc env >>= fun _ => again (.compLoop (.ListComp elt [⟨target, iter, ifs, 0⟩, ⟨target', iter', ifs', 0⟩] scope pos) 1 it acc env)) := by
  unfold compTurn
  dsimp only [List.getElem?_cons_zero, List.getElem?_cons_succ]
  show (standAt iter'.pos >>= fun _ => pyNext it >>= _) = _
  congr 1; funext _; congr 1; funext r
  cases r with
  | none => rfl
  | some v =>
    dsimp only
    congr 1; funext _; congr 1; funext _
    unfold body1 testsOf emitOf
    simp only [bind_assoc]
    congr 1; funext ok
    cases ok <;> simp [bind_assoc, pure_bind]

/-- the tests of a clause: none, or one -/
def TestAt (prog : Program) (w : World) (A : Around) (env : Env) (g : Heap) : List Expr → Bool → Prop
  | [], b => b = true
  | [c], b => EvT prog w A env g c b
  | _, _ => False
section
variable {α γ : Type} {prog : Program} {w : World} {A : Around} {RS : α → Heap → Value → Prop} {Ro : γ → Heap → Value → Prop}
theorem tests_wp {env : Env} {g : Heap} {ifs : List Expr} {b : Bool} {s : Shared} {Q : Bool → Shared → Prop} {E : Value → Shared → Prop} (h : TestAt prog w A env g ifs b) (hs : g.StaysIn s.heap) (k : ∀ h' tk, s.heap.StaysIn h' → Q b { s with heap := h', toks := tk }) :
    wpAny (model prog w) A (testsOf ifs env) Q E s := by
  unfold testsOf
  match ifs, h with
  | [], h => cases h; exact wpAny_tests_nil (k s.heap s.toks (stays_refl _))
  | [c], h => exact wpAny_tests_one (h s Q E hs k)

theorem emit_wp {env : Env} {g : Heap} {elt : Expr} {D : Addr} {ys : List Value} {out : List γ} {z : γ} {s : Shared} {Q : Unit → Shared → Prop} {E : Value → Shared → Prop} (stO : TStab Ro) (h : Ev prog w A env g elt (Ro z)) (hs : g.StaysIn s.heap) (hD : s.heap.IsList D ys.toArray) (hys : All2 Ro s.heap out ys) (hlen : out.length ≤ 2000000)
    (k : ∀ h' tk ys', (∀ b o, b ≠ D → s.heap.get? b = some o → h'.get? b = some o) → h'.IsList D ys'.toArray → All2 Ro h' (out ++ [z]) ys' → Q () { s with heap := h', toks := tk }) :
    wpAny (model prog w) A (emitOf elt (.ref D) env) Q E s := by
  unfold emitOf
  refine wpAny_bind (h s _ E hs fun v h' tk hk hv => ?_)
  have hD' : h'.IsList D ys.toArray := by obtain ⟨o, ho, r⟩ := hD; exact ⟨o, hk _ _ ho, r⟩
  refine wpAny_bind (wpAny_list_append hD' (fun h2 hl hs2 => wpAny_pure ?_) ?_)
  · have tl : TL h' h2 := TL.but hs2.extBut (noTup_list hD')
    refine k h2 tk (ys ++ [v]) (fun b o hb e => hs2.extBut b o hb (hk b o e)) (by simpa using hl) ?_
    exact ((hys.tl stO (.of hk)).snoc hv).tl stO tl
  · have := hys.len
    rw [List.size_toArray, this, sizeLine_eq]; omega

theorem body1_wp {env : Env} {ifs : List Expr} {elt : Expr} {D : Addr} {ys : List Value} {out : List γ} {b : Bool} {z : γ} {s : Shared} {Q : Unit → Shared → Prop} {E : Value → Shared → Prop} (stO : TStab Ro) (ht : TestAt prog w A env s.heap ifs b) (h : b = true → Ev prog w A env s.heap elt (Ro z))
    (hD : s.heap.IsList D ys.toArray) (hys : All2 Ro s.heap out ys) (hlen : out.length ≤ 2000000)
    (k : ∀ h' tk ys', (∀ b o, b ≠ D → s.heap.get? b = some o → h'.get? b = some o) → h'.IsList D ys'.toArray → All2 Ro h' (out ++ (if b then [z] else [])) ys' → Q () { s with heap := h', toks := tk }) :
    wpAny (model prog w) A (body1 elt ifs (.ref D) env) Q E s := by
  unfold body1
  refine wpAny_bind (tests_wp ht (stays_refl _) fun h' tk hk => ?_)
  have hD' : h'.IsList D ys.toArray := by obtain ⟨o, ho, r⟩ := hD; exact ⟨o, hk _ _ ho, r⟩
  cases b with
  | false => exact wpAny_pure (k h' tk ys (fun b o _ e => hk b o e) hD' (by simpa using hys.tl stO (.of hk)))
  | true =>
    simp only [if_true]
    refine emit_wp stO (h rfl) hk hD' (hys.tl stO (.of hk)) hlen fun h2 tk2 ys2 k2 hD2 hys2 => ?_
    exact k h2 tk2 ys2 (fun b o hb e => k2 b o hb (hk b o e)) hD2 (by simpa using hys2)

theorem flatMap_if (p : α → Bool) (f : α → γ) (xs : List α) : xs.flatMap (fun x => if p x then [f x] else []) = (xs.filter p).map f := by
  induction xs with
  | nil => rfl
  | cons x xs ih => cases hp : p x <;> simp [List.filter_cons, hp, ih]

/-- a source made ready: hb is what stood before the iterator was made -/
def SrcB (prog : Program) (w : World) (A : Around) {α : Type} (RS : α → Heap → Value → Prop) (items : List α) (hb : Heap) (xv : Value) (h1 : Heap) : Prop := ∀ (s : Shared) (Q : Value → Shared → Prop) (E : Value → Shared → Prop), s.heap = h1 →
    (∀ (I : Addr) (fp : List Addr) (P : Nat → Value → Prop) (St : Nat → Heap → Prop) (h' : Heap), Walks prog w A I fp [I] items.length P St → St 0 h' → h1.StaysIn h' → hb.get? I = none → (∀ b ∈ fp, b < h'.objs.size) →
      (∀ i h, St i h → ∃ o fs, h.get? I = some o ∧ o.data = .fields fs) →
      (∀ i v, P i v → ∃ x, items[i]? = some x ∧ ∀ g, TL hb g → RS x g v) →
      (∀ i (s' : Shared) (elts : List Expr) (k : Nat) (pos : Pos) (v : Value) (Q' : Unit → Shared → Prop) (E' : Value → Shared → Prop), St i s'.heap → Q' () s' → wpAny (model prog w) A (letOwnedTupleGo (.Tuple elts k pos) (.ref I) v) Q' E' s') →
      Q (.ref I) { s with heap := h' }) → wpAny (model prog w) A (pyIter xv) Q E s
def EvS (prog : Program) (w : World) (A : Around) (env : Env) (h₀ : Heap) {α : Type} (RS : α → Heap → Value → Prop) (items : List α) (iter : Expr) : Prop := ∀ (s : Shared) (Q : Value → Shared → Prop) (E : Value → Shared → Prop), h₀.StaysIn s.heap →
    (∀ xv h1 tk1 hb, s.heap.StaysIn hb → hb.StaysIn h1 → SrcB prog w A RS items hb xv h1 → Q xv { s with heap := h1, toks := tk1 }) → wpAny (model prog w) A (eval iter env) Q E s
theorem Ev.toS {env : Env} {h₀ : Heap} {iter : Expr} {items : List α} (h : Ev prog w A env h₀ iter (Src prog w A RS items)) : EvS prog w A env h₀ RS items iter := fun s Q E hs k =>
  h s Q E hs fun v h1 tk1 hk1 hsrc => k v h1 tk1 h1 hk1 (stays_refl _) fun s' Q' E' e kk => by
    subst e
    exact hsrc s' Q' E' (stays_refl _) fun I fp P St h' W hst hk2 hI hfp hInt _ hit hgo => kk I fp P St h' W hst hk2 hI hfp hInt hit hgo
/-- the shell of a list comprehension: what a loop of the first clause gives -/
theorem ev_comp {env : Env} {h₀ : Heap} {elt target iter : Expr} {ifs : List Expr} {rest : List Comprehension} {scope : Scope} {cl : List (Str × Addr)} {pos : Pos} {items : List α} {g : α → List γ} {Tg : α → (Str → Option Value) → Prop} {upd : (Str → Option Value) → (Str → Option Value) → Prop}
    (body : Addr → Env → Sem Unit)
    (hturn : ∀ (it : Value) (D : Addr) (cenv : Env), compTurn (.ListComp elt (⟨target, iter, ifs, 0⟩ :: rest) scope pos) 0 it (.ref D) cenv = (standAt iter.pos >>= fun _ => pyNext it >>= fun r => match r with
      | none => pure (.done .next)
      | some v => letOwnedTupleGo target it v >>= fun _ => assign target cenv v >>= fun _ => body D cenv >>= fun _ => again (.compLoop (.ListComp elt (⟨target, iter, ifs, 0⟩ :: rest) scope pos) 0 it (.ref D) cenv)))
    (hh : A.handled = none) (hiter : EvS prog w A env h₀ RS items iter) (stO : TStab Ro)
    (hb : ∀ C, Binds prog w A (compEnvC scope cl C env) RS target Tg upd)
    (htgt : (∃ x p, target = .Name x p) ∨ ∃ es k p, target = .Tuple es k p)
    (hlen : (items.flatMap g).length ≤ 1000000)
    (step : ∀ (C D : Addr) (x : α) (s : Shared) (m : Str → Option Value) (ys : List Value) (out : List γ) (Q : Unit → Shared → Prop), x ∈ items → h₀.get? C = none → h₀.get? D = none → C ≠ D → h₀.StaysIn s.heap → s.heap.Ns C m → Tg x m → s.heap.IsList D ys.toArray → All2 Ro s.heap out ys → out.length + (g x).length ≤ 1000000 →
      (∀ h' tk m' ys', Kp C D s.heap h' → h'.Ns C m' → h'.IsList D ys'.toArray → All2 Ro h' (out ++ g x) ys' → Q () { s with heap := h', toks := tk }) → wpAny (model prog w) A (body D (compEnvC scope cl C env)) Q (fun _ _ => False) s)
    (hclos : closureFor scope env = pure cl) (hcell : ∀ y ∈ scope.names, y.2 ≠ .cell) (hkind : scope.kind = .function)
    (hnames : ∀ y ∈ scope.names, y.2 = .local → scope.names.lookup y.1 = some .local)
    (hsf : ∀ x, foldedSetIterable iter env x = pure x) :
    Ev prog w A env h₀ (.ListComp elt (⟨target, iter, ifs, 0⟩ :: rest) scope pos) (IsL Ro (items.flatMap g)) := by
  intro s Q E hs k
  rw [eval_ListComp]
  refine wpAny_comprehension_free (use := none) rfl hsf hclos hkind hnames ?_
  show wpAny _ _ (eval iter env) _ _ _
  refine hiter s _ _ hs fun xv h1' tk1 h1 hk1 hk01 hsrc => ?_
  refine hsrc _ _ _ rfl fun I fp P St h2 W hst hk2' hI hfp hInt hit hgo => ?_
  have hk2 : h1.StaysIn h2 := stays_trans hk01 hk2'
  dsimp only at hI hst ⊢
  refine wpAny_newObj_type (wpAny_newFunctionEnv hcell (by intro y hy; simp at hy) (fun h3 hns3 hsb3 => ?_) hkind)
  dsimp only at hns3 hsb3 ⊢
  generalize hH2 : h2.push { cls := .type "list", dict := none, data := .seq ([] : List Value).toArray } = H2 at hns3 hsb3 ⊢
  have hC : H2.objs.size = h2.objs.size + 1 := by rw [← hH2, Heap.size_push]
  have hCD : H2.objs.size ≠ h2.objs.size := by omega
  have hIlt : I < h2.objs.size := hfp I (W.sub I (List.mem_singleton.mpr rfl))
  have old : ∀ b o, h2.get? b = some o → h3.get? b = some o := fun b o e => hsb3.extBut b o (by have := Heap.lt_size e; show b ≠ H2.objs.size; rw [hC]; exact Nat.ne_of_lt (Nat.lt_succ_of_lt this)) (Heap.get?_push_of_some _ (hH2 ▸ Heap.get?_push_of_some _ e))
  have hst3 : St 0 h3 := W.frame _ _ _ hst fun b _ o e => old b o e
  have fresh2 : ∀ a, h2.objs.size ≤ a → h2.get? a = none := fun a ha => Heap.get?_none_of_le ha
  have fresh1 : ∀ a, h2.objs.size ≤ a → h1.get? a = none := fun a ha => by
    cases e : h1.get? a with
    | none => rfl
    | some o => exact absurd (Heap.lt_size (hk2 _ _ e)) (Nat.not_lt.mpr ha)
  have fresh0 : ∀ a, h2.objs.size ≤ a → h₀.get? a = none := fun a ha => by
    cases e : h₀.get? a with
    | none => rfl
    | some o => have := hk1 _ _ (hs _ _ e); rw [fresh1 a ha] at this; cases this
  have hD3 : h3.IsList h2.objs.size ([] : List Value).toArray := ⟨_, hsb3.extBut _ _ (Ne.symm hCD) (Heap.get?_push_of_some _ (hH2 ▸ Heap.get?_push_size _ rfl)), rfl, 0, rfl⟩
  have hgo' : ∀ i (s' : Shared) (v : Value) (Q' : Unit → Shared → Prop) (E' : Value → Shared → Prop), St i s'.heap → Q' () s' → wpAny (model prog w) A (letOwnedTupleGo target (.ref I) v) Q' E' s' := by
    intro i s' v Q' E' hst' hq
    rcases htgt with ⟨x, p, rfl⟩ | ⟨es, kk, p, rfl⟩
    · exact wpAny_pure hq
    · exact hgo i s' es kk p v Q' E' hst' hq
  have loop : ∀ s₃ : Shared, s₃ = { s with heap := h3, toks := tk1 + ([] : List (Str × Value)).length } → codeAny (model prog w) A (.compLoop (.ListComp elt (⟨target, iter, ifs, 0⟩ :: rest) scope pos) 0 (.ref I) (.ref h2.objs.size) (compEnvC scope cl H2.objs.size env))
      (compPost (model prog w) A E none Q (.ref h2.objs.size) H2.objs.size) s₃ := by
    rintro s₃ rfl
    have hCf : H2.objs.size ∉ fp := fun q => Nat.lt_irrefl _ (Nat.lt_trans (Nat.lt_succ_self _) (hC ▸ hfp _ q))
    have hDf : h2.objs.size ∉ fp := fun q => Nat.lt_irrefl _ (hfp _ q)
    have hCn : h1.get? H2.objs.size = none := fresh1 _ (by omega)
    have hDn : h1.get? h2.objs.size = none := fresh1 _ (Nat.le_refl _)
    have hCn0 : h₀.get? H2.objs.size = none := fresh0 _ (by omega)
    refine comp_loop (C := H2.objs.size) (hs := h1) (Mi := fun _ => True) (B := 1000000) (out₀ := []) (ys₀ := []) (g := g) (body := body h2.objs.size (compEnvC scope cl H2.objs.size env)) (hturn _ _ _) rfl W hst3 hI hCf hDf hCD hit hgo' (fun i h st => ?_) stO (hb _) (fun _ _ _ _ => trivial)
      (noTup_none hCn) (noTup_none hDn) (by simpa using hlen) ?_ (fun b o _ _ e => old _ _ (hk2 _ _ e)) hns3 trivial hD3 trivial ?_
    · obtain ⟨o, fs, ho, hd⟩ := hInt i h st
      intro o' ho' _ _ _ hd'
      rw [ho] at ho'; cases ho'; rw [hd] at hd'; cases hd'
    · intro x s' m ys out Q' hx hkp hn htg _ hD hys hl kk
      refine step H2.objs.size h2.objs.size x s' m ys out Q' hx hCn0 (fresh0 _ (Nat.le_refl _)) hCD (fun b o e => ?_) hn htg hD hys hl fun h' tk m' ys' a1 a2 a3 a4 => kk h' tk m' ys' a1 a2 trivial a3 a4
      have e1 := hk1 _ _ (hs _ _ e)
      exact hkp b o (fun q => by rw [q, hCn] at e1; cases e1) (fun q => by rw [q, hDn] at e1; cases e1) e1
    · intro h' tk m' ys' hkp hn _ hD hys
      refine ⟨m', hn, fun h'' hs'' => k (.ref h2.objs.size) h'' tk (fun b o e => ?_) ⟨_, ys', rfl, hD.extBut hs''.extBut (Ne.symm hCD), (by simpa using hys : All2 Ro h' (items.flatMap g) ys').tl stO (TL.but hs''.extBut (noTup_ns hn))⟩⟩
      have e1 := hk1 _ _ e
      have b1 : b ≠ H2.objs.size := fun q => by rw [q, hCn] at e1; cases e1
      have b2 : b ≠ h2.objs.size := fun q => by rw [q, hDn] at e1; cases e1
      exact hs''.extBut b o b1 (hkp b o b1 b2 e1)
  exact codeAny_compStart_list (loop _ rfl) (W.self 0 _ _ _ hst3 (loop _ rfl))

/-- one clause, at most one test -/
theorem ev_comp1 {env : Env} {h₀ : Heap} {elt target iter : Expr} {ifs : List Expr} {scope : Scope} {cl : List (Str × Addr)} {pos : Pos} {items : List α} {Tg : α → (Str → Option Value) → Prop} {upd : (Str → Option Value) → (Str → Option Value) → Prop} (p : α → Bool) (f : α → γ)
    (hh : A.handled = none) (hiter : EvS prog w A env h₀ RS items iter) (stO : TStab Ro)
    (hb : ∀ C, Binds prog w A (compEnvC scope cl C env) RS target Tg upd)
    (htgt : (∃ x p, target = .Name x p) ∨ ∃ es k p, target = .Tuple es k p)
    (hlen : items.length ≤ 1000000)
    (he : ∀ (C : Addr) (x : α) (g : Heap) (m : Str → Option Value), x ∈ items → h₀.StaysIn g → g.Ns C m → Tg x m → TestAt prog w A (compEnvC scope cl C env) g ifs (p x) ∧ (p x = true → Ev prog w A (compEnvC scope cl C env) g elt (Ro (f x))))
    (hclos : closureFor scope env = pure cl) (hcell : ∀ y ∈ scope.names, y.2 ≠ .cell) (hkind : scope.kind = .function)
    (hnames : ∀ y ∈ scope.names, y.2 = .local → scope.names.lookup y.1 = some .local)
    (hsf : ∀ x, foldedSetIterable iter env x = pure x) :
    Ev prog w A env h₀ (.ListComp elt [⟨target, iter, ifs, 0⟩] scope pos) (IsL Ro ((items.filter p).map f)) := by
  rw [← flatMap_if]
  refine ev_comp (fun D cenv => body1 elt ifs (.ref D) cenv) (fun it D cenv => turn1 ..) hh hiter stO hb htgt ?_ ?_ hclos hcell hkind hnames hsf
  · rw [flatMap_if, List.length_map]
    exact Nat.le_trans (List.length_filter_le ..) hlen
  · intro C D x s m ys out Q hx hC hD hCD hs hn htg hDl hys hl k
    obtain ⟨h1, h2⟩ := he C x s.heap m hx hs hn htg
    refine body1_wp stO h1 h2 hDl hys (by omega) fun h' tk ys' kk hD' hys' => ?_
    exact k h' tk m ys' (fun b o _ b2 e => kk b o b2 e) (hn.at' fun o e => kk _ o hCD e) hD' hys'
end
end Mine
end
section -- Q4
open PySem PySem.W PyProof.Rows PySem.Calls
set_option maxRecDepth 100000
set_option maxHeartbeats 4000000
set_option linter.unusedVariables false
namespace Mine

/-- the text's own objects and names stand -/
structure Cx (w : World) (mean : ExcName → Option Value) (mg mb : Str → Option Value) (h : Heap) : Prop where
  X : (hd.heap_39 w.params).In h
  T : Top vw (looseW vw []) mean mg mb h
theorem Cx.up {w : World} {mean : ExcName → Option Value} {mg mb : Str → Option Value} {h h' : Heap} (c : Cx w mean mg mb h) (k : h.StaysIn h') : Cx w mean mg mb h' := ⟨c.X.keeps k, c.T.keeps k⟩

/-- room for frames -/
structure Rm (A : Around) (n : Nat) : Prop where
  hh : A.handled = none
  hd : A.depth + n < 900
  hu : A.units + 20 * n < 9000
theorem Rm.less {A : Around} {n m : Nat} (r : Rm A n) (h : m ≤ n) : Rm A m := ⟨r.hh, by have := r.hd; omega, by have := r.hu; omega⟩
theorem Rm.deep {A : Around} {n : Nat} (r : Rm A (n + 1)) (env : Env) : Rm (A.deeper env) n := ⟨r.hh, by have := r.hd; show A.depth + 1 + n < 900; omega, by have := r.hu; show A.units + 3 + 20 * n < 9000; omega⟩
theorem Rm.room {A : Around} {n : Nat} (r : Rm A n) : A.depth < recursionLimit := by have := r.hd; show A.depth < 1000; omega
theorem Rm.cl {A : Around} {n : Nat} (r : Rm A n) : A.units < cLine := by have := r.hu; show A.units < 9900; omega

/-- entering a def of the text, cells and all -/
theorem enterC {prog : Program} {w : World} {A : Around} {s : Shared} {K : Frag} {g : Heap}
    {name qual : Str} {params : Arguments} {body : List Stmt} {scope : Scope} {dV kV doc pm cdv ct oc : Value} {an od : Option Addr} {osl : Array (Option Value)} {f : Addr} {args : List Value} {binds : List (Str × Value)} {Q : Value → Shared → Prop} {E : Value → Shared → Prop}
    (hg : g.StaysIn s.heap) (X : K.In g) (hlim : g.NoLimit)
    (ho : K.lookup f = some ⟨oc, od, .func (fnOf name qual params body scope dV kV doc pm an cdv ct), osl⟩) (hcd : codeIn K cdv qual = true) (hroom : A.depth < recursionLimit)
    (hbind : bindArgs (fnOf name qual params body scope dV kV doc pm an cdv ct) ⟨args, []⟩ = pure binds)
    (hkind : (binds.all fun y => scope.names.lookup y.1 == some .local || scope.names.lookup y.1 == some .cell) = true)
    (h : ∀ L h₁ tk, s.heap.get? L = none → s.heap.StaysIn h₁ → h₁.Ns L (bindL (envOfC qual scope L f cdv).kindOf binds fun _ => none) →
      (∀ n c, (cellsFrom (L + 1) scope.names []).lookup n = some c → h₁.IsCell c (bindC (envOfC qual scope L f cdv).kindOf binds (fun _ => none) n)) → L = s.heap.objs.size →
      wpAny (model prog w) (A.deeper (envOfC qual scope L f cdv)) (execs body (envOfC qual scope L f cdv))
        (fun fl s' => Q (match fl with | .ret v => v | _ => .none) s') (fun _ _ => False)
        { s with heap := h₁, toks := tk })
    (hco : scope.isCoroutine = false) (hgen : scope.isGenerator = false) (hk : scope.kind = .function) : wpAny (model prog w) A (call (.ref f) args) Q E s := by
  refine wpAny_noRaise (wpAny_call ?_)
  refine codeAny_call_cells (fd := fnOf name qual params body scope dV kV doc pm an cdv ct) (body := body) (binds := binds) hroom (hg _ _ (X _ _ ho)) rfl (hlim.keeps hg) (codeRec_of (X.keeps hg) hcd) rfl hbind rfl (kindsX hkind _) (fun s₁ x => ?_) hco hgen hk
  obtain ⟨h₁, tk, rfl, hk₁⟩ := x.done
  refine wpAny_mono (h s.heap.objs.size h₁ tk (Heap.get?_none_of_le (Nat.le_refl _)) hk₁ x.toInCall.ns x.cell rfl) (fun fl s' hl => ?_) (fun _ _ x => x.elim)
  exact hl

/-- a def whose body is one return -/
theorem cl_return {prog : Program} {w : World} {A : Around} {K : Frag} {g : Heap}
    {name qual : Str} {params : Arguments} {e : Expr} {scope : Scope} {dV kV doc pm cdv ct oc : Value} {an od : Option Addr} {osl : Array (Option Value)} {f : Addr} {args : List Value} {binds : List (Str × Value)} {R : Heap → Value → Prop} {pos : Pos}
    (X : K.In g) (hlim : g.NoLimit)
    (ho : K.lookup f = some ⟨oc, od, .func (fnOf name qual params [.Return (some e) pos] scope dV kV doc pm an cdv ct), osl⟩) (hcd : codeIn K cdv qual = true) (hroom : A.depth < recursionLimit)
    (hbind : bindArgs (fnOf name qual params [.Return (some e) pos] scope dV kV doc pm an cdv ct) ⟨args, []⟩ = pure binds)
    (hkind : (binds.all fun y => scope.names.lookup y.1 == some .local || scope.names.lookup y.1 == some .cell) = true)
    (h : ∀ L h₁, g.StaysIn h₁ → h₁.Ns L (bindL (envOfC qual scope L f cdv).kindOf binds fun _ => none) →
      (∀ n c, (cellsFrom (L + 1) scope.names []).lookup n = some c → h₁.IsCell c (bindC (envOfC qual scope L f cdv).kindOf binds (fun _ => none) n)) →
      Ev prog w (A.deeper (envOfC qual scope L f cdv)) (envOfC qual scope L f cdv) h₁ e R)
    (hco : scope.isCoroutine = false) (hgen : scope.isGenerator = false) (hk : scope.kind = .function) : Cl prog w A g (.ref f) args R := by
  intro s Q E hs k
  refine enterC hs X hlim ho hcd hroom hbind hkind (fun L h₁ tk _ hst hns hc _ => ?_) hco hgen hk
  refine wpAny_execs_cons (wpAny_Return_some ?_)
  refine h L h₁ (stays_trans hs hst) hns hc _ _ _ (stays_refl _) fun v h' tk' hk' hv => ?_
  exact k v h' tk' (stays_trans hst hk') hv
end Mine
end
section -- Q5
open PySem PySem.W PyProof.Rows PySem.Calls
set_option maxRecDepth 100000
set_option maxHeartbeats 4000000
set_option linter.unusedVariables false
namespace Mine

section
variable {α : Type} {prog : Program} {w : World} {A : Around} {env : Env} {h₀ : Heap} {R : α → Heap → Value → Prop}
theorem Ev.callT {T : String} {func e : Expr} {rest : List Expr} {pos : Pos} {R0 : Heap → Value → Prop} {R3 : Heap → List Value → Prop} (hf : Ev prog w A env h₀ func (IsV (.type T))) (ha : EvL prog w A env h₀ (e :: rest) R3)
    (hc : ∀ (s : Shared) (vs : List Value) (Q : Value → Shared → Prop) (E : Value → Shared → Prop), h₀.StaysIn s.heap → R3 s.heap vs → (∀ v h' tk, s.heap.StaysIn h' → R0 h' v → Q v { s with heap := h', toks := tk }) → wpAny (model prog w) A (call (.type T) vs) Q E s)
    (he : starEach (e :: rest) env = (false, eval e env) :: starEach rest env := by rfl) (hplain : (backTo pos (starEach rest env)).any (·.1) = false := by rfl)
    (hcall : eval (.Call func (e :: rest) [] pos) env = (do callWith pos (← eval func env) [] (backTo pos (starEach (e :: rest) env)) (backToKw pos (keywordEach [] env))) := by rfl) :
    Ev prog w A env h₀ (.Call func (e :: rest) [] pos) R0 := fun s Q E hs k => by
  refine Call_ (hf s _ E hs fun v h' tk hk hv => ?_) hcall
  cases hv
  refine callWith_type1 (ha pos _ _ E (stays_trans hs hk) fun vs h2 tk2 hk2 hr => ?_) he hplain
  exact hc _ vs Q E (stays_trans hs (stays_trans hk hk2)) hr fun v h3 tk3 hk3 hv => k v h3 tk3 (stays_trans hk (stays_trans hk2 hk3)) hv
theorem call_tupleOf {xs : List α} {v : Value} {s : Shared} {Q : Value → Shared → Prop} {E : Value → Shared → Prop} (st : TStab R) (hl : xs.length ≤ 1000000) (hv : IsL R xs s.heap v) (k : ∀ v h' tk, s.heap.StaysIn h' → IsT R xs h' v → Q v { s with heap := h', toks := tk }) :
    wpAny (model prog w) A (call (.type "tuple") [v]) Q E s := by
  obtain ⟨a, vs, rfl, hl', hr⟩ := hv
  refine call_tuple_list hl' (fun h' hk => ?_) (by have := hr.len; rw [List.size_toArray, this, sizeLine_eq]; omega)
  exact k _ _ s.toks (stays_trans hk (stays_push _ _)) ⟨_, vs, rfl, ⟨_, Heap.get?_push_size _ rfl, rfl, 0, rfl⟩, hr.tl st (.of (stays_trans hk (stays_push _ _)))⟩
theorem Ev.tupleOf {xs : List α} {func e : Expr} {pos : Pos} (st : TStab R) (hl : xs.length ≤ 1000000) (hf : Ev prog w A env h₀ func (IsV (.type "tuple"))) (h1 : Ev prog w A env h₀ e (IsL R xs))
    (he : starEach [e] env = [(false, eval e env)] := by rfl) (hcall : eval (.Call func [e] [] pos) env = (do callWith pos (← eval func env) [] (backTo pos (starEach [e] env)) (backToKw pos (keywordEach [] env))) := by rfl) :
    Ev prog w A env h₀ (.Call func [e] [] pos) (IsT R xs) := by
  refine hf.callT (.one h1 (stab_l st xs) he) (fun s vs Q E _ hr k => ?_) he rfl hcall
  obtain ⟨v, rfl, hv⟩ := hr
  exact call_tupleOf st hl hv k
theorem all2_ints : ∀ {h : Heap} {xs : List Int} {vs : List Value}, All2 IsI h xs vs → IntsAre vs xs
  | _, [], [], _ => .nil
  | _, _ :: _, _ :: _, ⟨⟨t, e⟩, b⟩ => by subst e; exact .cons _ _ (all2_ints b)
  | _, [], _ :: _, x => x.elim
  | _, _ :: _, [], x => x.elim
theorem ints_all2 : ∀ {h : Heap} {xs : List Int} {vs : List Value}, IntsAre vs xs → All2 IsI h xs vs
  | _, _, _, .nil => trivial
  | _, _, _, .cons _ t r => ⟨⟨t, rfl⟩, ints_all2 r⟩
theorem call_sumOf {xs : List Int} {v : Value} {s : Shared} {Q : Value → Shared → Prop} {E : Value → Shared → Prop} (hh : A.handled = none) (hv : IsL IsI xs s.heap v) (k : ∀ v h' tk, s.heap.StaysIn h' → IsI xs.sum h' v → Q v { s with heap := h', toks := tk }) :
    wpAny (model prog w) A (call (.builtin "sum") [v]) Q E s := by
  obtain ⟨a, vs, rfl, hl', hr⟩ := hv
  have hi := all2_ints hr
  obtain ⟨ys, hys⟩ := hi.allInts.items
  rw [hys] at hl'
  refine sum_intListG hh hl' fun h' tk t' hk => k _ h' tk hk ⟨t', ?_⟩
  have e : numsOf vs = xs := hi.numsOf
  have e2 : (intItems ys).toList = vs := by rw [← hys]
  rw [← e, ← e2, nums_intItems, preSum_eq, List.take_of_length_le (by simp)]
theorem Ev.sum {xs : List Int} {func e : Expr} {pos : Pos} (hh : A.handled = Option.none) (hf : Ev prog w A env h₀ func (IsV (.builtin "sum"))) (h1 : Ev prog w A env h₀ e (IsL IsI xs))
    (he : starEach [e] env = [(false, eval e env)] := by rfl) (hcall : eval (.Call func [e] [] pos) env = (do callWith pos (← eval func env) [] (backTo pos (starEach [e] env)) (backToKw pos (keywordEach [] env))) := by rfl) :
    Ev prog w A env h₀ (.Call func [e] [] pos) (IsI xs.sum) := by
  refine hf.callB (.one h1 (stab_l tstab_i xs) he) (fun s vs Q E _ hr k => ?_) he rfl hcall
  obtain ⟨v, rfl, hv⟩ := hr
  exact call_sumOf hh hv k
/-- a pair written out -/
theorem Ev.pair {a b : Int} {e e' : Expr} {k : Nat} {pos : Pos} (h1 : Ev prog w A env h₀ e (IsI a)) (h2 : Ev prog w A env h₀ e' (IsI b)) (he : starEach [e, e'] env = [(false, eval e env), (false, eval e' env)] := by rfl) :
    Ev prog w A env h₀ (.Tuple [e, e'] k pos) (IsP (a, b)) :=
  .tuple (.two h1 h2 stab_i stab_i he) (by show 2 ≤ 1000; decide) (fun g vs ⟨_, _, e, _⟩ => by rw [e]; rfl) fun g g' vs a hg ⟨_, _, e, ⟨t, e1⟩, u, e2⟩ ht => by subst e e1 e2; exact ⟨a, t, u, rfl, ht⟩
end

-- the built-in names
section
variable {w : World} {mean : ExcName → Option Value} {mg mb : Str → Option Value} {h : Heap} {prog : Program} {A : Around} {env : Env} {x : Str} {pos : Pos} {v : Value}
theorem Cx.blt (c : Cx w mean mg mb h) (e : nsIn (hd.heap_39 w.params) mainGlobals x = some none) (hv : bootBuiltins x = some v) (hn : x ≠ "__name__") (hg : env.globals = mainGlobals) (hb : env.builtins = builtinsNs) (hk : env.scope.kind = .function) (hl : env.kindOf x = some .globalImplicit) (hd : (x == ("__debug__" : Str)) = false) :
    Ev prog w A env h (.Name x pos) (IsV v) := .blt (hg ▸ c.T.g) (mg_none_of c.X c.T.g e) (hb ▸ c.T.b) ((c.T.builtins x hn).trans hv) hk hl hd
theorem Cx.glob (c : Cx w mean mg mb h) (e : nsIn (hd.heap_39 w.params) mainGlobals x = some (some v)) (hg : env.globals = mainGlobals) (hk : env.scope.kind = .function) (hl : env.kindOf x = some .globalImplicit) (hd : (x == ("__debug__" : Str)) = false) :
    Ev prog w A env h (.Name x pos) (IsV v) := .glob (hg ▸ c.T.g) (mg_of c.X c.T.g e) hk hl hd
end
theorem fill_it : (PySem.Challenge.rw_qd0006_01, Mine.hd.heap_39) = (PySem.Challenge.rw_qd0006_01, Mine.hd.heap_39) := by k_fill; rfl
theorem ns_sum (w : World) : nsIn (hd.heap_39 w.params) mainGlobals "sum" = some none := by k_is
theorem ns_tuple (w : World) : nsIn (hd.heap_39 w.params) mainGlobals "tuple" = some none := by k_is
theorem ns_max (w : World) : nsIn (hd.heap_39 w.params) mainGlobals "max" = some none := by k_is
theorem ns_min (w : World) : nsIn (hd.heap_39 w.params) mainGlobals "min" = some none := by k_is
theorem ns_len (w : World) : nsIn (hd.heap_39 w.params) mainGlobals "len" = some none := by k_is
theorem ns_sorted (w : World) : nsIn (hd.heap_39 w.params) mainGlobals "sorted" = some none := by k_is
theorem ns_range (w : World) : nsIn (hd.heap_39 w.params) mainGlobals "range" = some none := by k_is
theorem ns_reversed (w : World) : nsIn (hd.heap_39 w.params) mainGlobals "reversed" = some none := by k_is
theorem bb_sum : bootBuiltins "sum" = some (.builtin "sum") := by boot_fast
theorem bb_max : bootBuiltins "max" = some (.builtin "max") := by boot_fast
theorem bb_min : bootBuiltins "min" = some (.builtin "min") := by boot_fast
theorem bb_len : bootBuiltins "len" = some (.builtin "len") := by boot_fast
theorem bb_sorted : bootBuiltins "sorted" = some (.builtin "sorted") := by boot_fast
theorem bb_tuple : bootBuiltins "tuple" = some (.type "tuple") := by boot_fast
theorem bb_range : bootBuiltins "range" = some (.type "range") := by boot_fast
theorem bb_reversed : bootBuiltins "reversed" = some (.type "reversed") := by boot_fast


section
variable {γ : Type} {prog : Program} {w : World} {A : Around} {Ro : γ → Heap → Value → Prop} {env : Env} {h₀ : Heap} {elt iter : Expr} {ifs : List Expr} {scope : Scope} {cl : List (Str × Addr)} {pos : Pos}
/-- for x, y in a source of pairs -/
theorem ev_compP {x y : Str} {px py pt : Pos} {k : Nat} {items : Dm} (p : Int × Int → Bool) (f : Int × Int → γ) (hh : A.handled = none) (hiter : EvS prog w A env h₀ IsP items iter) (stO : TStab Ro) (hlen : items.length ≤ 1000000)
    (he : ∀ (C : Addr) (z : Int × Int) (g : Heap), z ∈ items → h₀.StaysIn g → (∀ pos, Ev prog w A (compEnvC scope cl C env) g (.Name x pos) (IsI z.1)) → (∀ pos, Ev prog w A (compEnvC scope cl C env) g (.Name y pos) (IsI z.2)) →
      TestAt prog w A (compEnvC scope cl C env) g ifs (p z) ∧ (p z = true → Ev prog w A (compEnvC scope cl C env) g elt (Ro (f z))))
    (hx : ∀ C, (compEnvC scope cl C env).kindOf x = some .local) (hy : ∀ C, (compEnvC scope cl C env).kindOf y = some .local) (hxy : x ≠ y) (hdx : (x == ("__debug__" : Str)) = false) (hdy : (y == ("__debug__" : Str)) = false)
    (hclos : closureFor scope env = pure cl) (hcell : ∀ y ∈ scope.names, y.2 ≠ .cell) (hkind : scope.kind = .function)
    (hnames : ∀ y ∈ scope.names, y.2 = .local → scope.names.lookup y.1 = some .local) (hsf : ∀ x, foldedSetIterable iter env x = pure x) :
    Ev prog w A env h₀ (.ListComp elt [⟨.Tuple [.Name x px, .Name y py] k pt, iter, ifs, 0⟩] scope pos) (IsL Ro ((items.filter p).map f)) := by
  have hk : ∀ C, (compEnvC scope cl C env).scope.kind = .function := fun C => hkind
  refine ev_comp1 (RS := IsP) (Tg := fun z m => ∃ t u, m x = some (.int z.1 t) ∧ m y = some (.int z.2 u)) (upd := fun m m' => ∀ q, q ≠ x → q ≠ y → m' q = m q) p f hh hiter stO (fun C => binds_pair hh (hx C) (hy C) hxy ?_) (.inr ⟨_, _, _, rfl⟩) hlen ?_ hclos hcell hkind hnames hsf
  · show (scope.kind == .class || (scope.kind == .module && _)) = false
    rw [hkind]; rfl
  · intro C z g m hz hg hnm ⟨t, u, e1, e2⟩
    exact he C z g hz hg (fun pos => (Ev.loc hnm e1 (hk C) (hx C) hdx).mono fun _ _ e => ⟨t, e⟩) (fun pos => (Ev.loc hnm e2 (hk C) (hy C) hdy).mono fun _ _ e => ⟨u, e⟩)
theorem ev_compP0 {x y : Str} {px py pt : Pos} {k : Nat} {items : Dm} (f : Int × Int → γ) (hh : A.handled = none) (hiter : EvS prog w A env h₀ IsP items iter) (stO : TStab Ro) (hlen : items.length ≤ 1000000)
    (he : ∀ (C : Addr) (z : Int × Int) (g : Heap), z ∈ items → h₀.StaysIn g → (∀ pos, Ev prog w A (compEnvC scope cl C env) g (.Name x pos) (IsI z.1)) → (∀ pos, Ev prog w A (compEnvC scope cl C env) g (.Name y pos) (IsI z.2)) →
      Ev prog w A (compEnvC scope cl C env) g elt (Ro (f z)))
    (hx : ∀ C, (compEnvC scope cl C env).kindOf x = some .local) (hy : ∀ C, (compEnvC scope cl C env).kindOf y = some .local) (hxy : x ≠ y) (hdx : (x == ("__debug__" : Str)) = false) (hdy : (y == ("__debug__" : Str)) = false)
    (hclos : closureFor scope env = pure cl) (hcell : ∀ y ∈ scope.names, y.2 ≠ .cell) (hkind : scope.kind = .function)
    (hnames : ∀ y ∈ scope.names, y.2 = .local → scope.names.lookup y.1 = some .local) (hsf : ∀ x, foldedSetIterable iter env x = pure x) :
    Ev prog w A env h₀ (.ListComp elt [⟨.Tuple [.Name x px, .Name y py] k pt, iter, [], 0⟩] scope pos) (IsL Ro (items.map f)) := by
  have := ev_compP (ifs := []) (px := px) (py := py) (pt := pt) (k := k) (pos := pos) (fun _ => true) f hh hiter stO hlen (fun C z g hz hg h1 h2 => ⟨rfl, fun _ => he C z g hz hg h1 h2⟩) hx hy hxy hdx hdy hclos hcell hkind hnames hsf
  rwa [show items.filter (fun _ => true) = items by simp] at this
theorem Ev.cellI {x : Str} {pos : Pos} {c : Addr} {i : Int} {t : Tok} (hv : h₀.IsCell c (some (.int i t))) (hc : env.cells.lookup x = some c) (hk : env.scope.kind = .function) (hl : env.kindOf x = some .cell) (hd : (x == ("__debug__" : Str)) = false) :
    Ev prog w A env h₀ (.Name x pos) (IsI i) := (Ev.cell hc hv hk hl hd).mono fun _ _ e => ⟨t, e⟩
theorem Ev.locI {x : Str} {pos : Pos} {m : Str → Option Value} {i : Int} {t : Tok} (hn : h₀.Ns env.locals m) (hv : m x = some (.int i t)) (hk : env.scope.kind = .function) (hl : env.kindOf x = some .local) (hd : (x == ("__debug__" : Str)) = false) :
    Ev prog w A env h₀ (.Name x pos) (IsI i) := (Ev.loc hn hv hk hl hd).mono fun _ _ e => ⟨t, e⟩
/-- a source by a name -/
theorem Ev.src {α : Type} {R : α → Heap → Value → Prop} {xs : List α} {e : Expr} {v : Value} (hh : A.handled = Option.none) (st : TStab R) (h : Ev prog w A env h₀ e (IsV v)) (hv : IsT R xs h₀ v) : EvS prog w A env h₀ R xs e :=
  (h.mono' fun g u hg e => by cases e; exact src_tuple hh st (stab_t st xs _ _ _ hg hv) : Ev prog w A env h₀ e (Src prog w A R xs)).toS
theorem Ev.srcL {α : Type} {R : α → Heap → Value → Prop} {xs : List α} {e : Expr} {v : Value} (hh : A.handled = Option.none) (st : TStab R) (h : Ev prog w A env h₀ e (IsV v)) (hv : IsL R xs h₀ v) : EvS prog w A env h₀ R xs e :=
  (h.mono' fun g u hg e => by cases e; exact src_list hh st (stab_l st xs _ _ _ hg hv) : Ev prog w A env h₀ e (Src prog w A R xs)).toS
end

/-- the model -/
abbrev pg : Program := PySem.Challenge.rw_qd0006_01.row.prog

def sizeD (d : Dm) : Int := (d.map fun p => p.2 - p.1 + 1).sum

theorem cl_size {w : World} {A : Around} {mean : ExcName → Option Value} {mg mb : Str → Option Value} {h : Heap} {v : Value} {d : Dm} (c : Cx w mean mg mb h) (r : Rm A 2) (hl : d.length ≤ 1000) (hd : IsT IsP d h v) :
    Cl pg w A h (.ref 74) [v] (IsI (sizeD d)) := by
  refine cl_return (prog := pg) (binds := [("d", v)]) c.X c.T.nolimit (by k_is) (by k_is) r.room (by rfl) (by rfl) (fun L h₁ hs hn hc => ?_) (by rfl) (by rfl) (by rfl)
  have c₁ := c.up hs
  have rd := fun env => r.deep (n := 1) env
  refine Ev.sum (rd _).hh (c₁.blt (ns_sum w) bb_sum (by decide) rfl rfl rfl rfl rfl) ?_ rfl rfl
  exact ev_compP0 (cl := []) (fun p => p.2 - p.1 + 1) (rd _).hh ((Ev.loc hn rfl rfl rfl rfl).src (rd _).hh tstab_p (stab_t tstab_p d _ _ _ hs hd)) tstab_i (by omega)
    (fun C z g hz hg lo hi => ((hi _).sub (lo _)).add Ev.lit) (fun _ => rfl) (fun _ => rfl) (by decide) rfl rfl (by rfl) (by decide) (by rfl) (by decide) (fun _ => rfl)

def upToD (d : Dm) (k : Int) : Dm := (d.filter fun p => decide (p.1 ≤ k)).map fun p => (p.1, min p.2 k)
def fromOnD (d : Dm) (k : Int) : Dm := (d.filter fun p => decide (k ≤ p.2)).map fun p => (max p.1 k, p.2)
def shiftedD (d : Dm) (k : Int) : Dm := d.map fun p => (p.1 + k, p.2 + k)

theorem cl_up_to {w : World} {A : Around} {mean : ExcName → Option Value} {mg mb : Str → Option Value} {h : Heap} {v : Value} {d : Dm} {k : Int} {t : Tok} (c : Cx w mean mg mb h) (r : Rm A 2) (hl : d.length ≤ 1000) (hd : IsT IsP d h v) :
    Cl pg w A h (.ref 93) [v, .int k t] (IsT IsP (upToD d k)) := by
  refine cl_return (prog := pg) (binds := [("d", v), ("k", .int k t)]) c.X c.T.nolimit (by k_is) (by k_is) r.room (by rfl) (by rfl) (fun L h₁ hs hn hc => ?_) (by rfl) (by rfl) (by rfl)
  have c₁ := c.up hs
  have rd := fun env => r.deep (n := 1) env
  have hk : h₁.IsCell (L + 1) (some (.int k t)) := hc "k" (L + 1) rfl
  have hlen : (upToD d k).length ≤ 1000000 := by unfold upToD; rw [List.length_map]; have := List.length_filter_le (fun p : Int × Int => decide (p.1 ≤ k)) d; omega
  refine Ev.tupleOf tstab_p hlen (c₁.blt (ns_tuple w) bb_tuple (by decide) rfl rfl rfl rfl rfl) ?_ rfl rfl
  refine ev_compP (cl := [("k", L + 1)]) (fun p => decide (p.1 ≤ k)) (fun p => (p.1, min p.2 k)) (rd _).hh ((Ev.loc hn rfl rfl rfl rfl).src (rd _).hh tstab_p (stab_t tstab_p d _ _ _ hs hd)) tstab_p (by omega)
    (fun C z g hz hg lo hi => ?_) (fun _ => rfl) (fun _ => rfl) (by decide) rfl rfl (by rfl) (by decide) (by rfl) (by decide) (fun _ => rfl)
  exact ⟨.le (lo _) (.cellI (hk.keeps hg) rfl rfl rfl rfl), fun _ => .pair (lo _) (.min (rd _).hh ((c₁.up hg).blt (ns_min w) bb_min (by decide) rfl rfl rfl rfl rfl) (hi _) (.cellI (hk.keeps hg) rfl rfl rfl rfl))⟩
theorem cl_from_on {w : World} {A : Around} {mean : ExcName → Option Value} {mg mb : Str → Option Value} {h : Heap} {v : Value} {d : Dm} {k : Int} {t : Tok} (c : Cx w mean mg mb h) (r : Rm A 2) (hl : d.length ≤ 1000) (hd : IsT IsP d h v) :
    Cl pg w A h (.ref 98) [v, .int k t] (IsT IsP (fromOnD d k)) := by
  refine cl_return (prog := pg) (binds := [("d", v), ("k", .int k t)]) c.X c.T.nolimit (by k_is) (by k_is) r.room (by rfl) (by rfl) (fun L h₁ hs hn hc => ?_) (by rfl) (by rfl) (by rfl)
  have c₁ := c.up hs
  have rd := fun env => r.deep (n := 1) env
  have hk : h₁.IsCell (L + 1) (some (.int k t)) := hc "k" (L + 1) rfl
  have hlen : (fromOnD d k).length ≤ 1000000 := by unfold fromOnD; rw [List.length_map]; have := List.length_filter_le (fun p : Int × Int => decide (k ≤ p.2)) d; omega
  refine Ev.tupleOf tstab_p hlen (c₁.blt (ns_tuple w) bb_tuple (by decide) rfl rfl rfl rfl rfl) ?_ rfl rfl
  refine ev_compP (cl := [("k", L + 1)]) (fun p => decide (k ≤ p.2)) (fun p => (max p.1 k, p.2)) (rd _).hh ((Ev.loc hn rfl rfl rfl rfl).src (rd _).hh tstab_p (stab_t tstab_p d _ _ _ hs hd)) tstab_p (by omega)
    (fun C z g hz hg lo hi => ?_) (fun _ => rfl) (fun _ => rfl) (by decide) rfl rfl (by rfl) (by decide) (by rfl) (by decide) (fun _ => rfl)
  exact ⟨.ge (hi _) (.cellI (hk.keeps hg) rfl rfl rfl rfl), fun _ => .pair (.max (rd _).hh ((c₁.up hg).blt (ns_max w) bb_max (by decide) rfl rfl rfl rfl rfl) (lo _) (.cellI (hk.keeps hg) rfl rfl rfl rfl)) (hi _)⟩
theorem cl_shifted {w : World} {A : Around} {mean : ExcName → Option Value} {mg mb : Str → Option Value} {h : Heap} {v : Value} {d : Dm} {k : Int} {t : Tok} (c : Cx w mean mg mb h) (r : Rm A 2) (hl : d.length ≤ 1000) (hd : IsT IsP d h v) :
    Cl pg w A h (.ref 131) [v, .int k t] (IsT IsP (shiftedD d k)) := by
  refine cl_return (prog := pg) (binds := [("d", v), ("k", .int k t)]) c.X c.T.nolimit (by k_is) (by k_is) r.room (by rfl) (by rfl) (fun L h₁ hs hn hc => ?_) (by rfl) (by rfl) (by rfl)
  have c₁ := c.up hs
  have rd := fun env => r.deep (n := 1) env
  have hk : h₁.IsCell (L + 1) (some (.int k t)) := hc "k" (L + 1) rfl
  refine Ev.tupleOf tstab_p (by unfold shiftedD; rw [List.length_map]; omega) (c₁.blt (ns_tuple w) bb_tuple (by decide) rfl rfl rfl rfl rfl) ?_ rfl rfl
  exact ev_compP0 (cl := [("k", L + 1)]) (fun p => (p.1 + k, p.2 + k)) (rd _).hh ((Ev.loc hn rfl rfl rfl rfl).src (rd _).hh tstab_p (stab_t tstab_p d _ _ _ hs hd)) tstab_p (by omega)
    (fun C z g hz hg lo hi => .pair (.add (lo _) (.cellI (hk.keeps hg) rfl rfl rfl rfl)) (.add (hi _) (.cellI (hk.keeps hg) rfl rfl rfl rfl))) (fun _ => rfl) (fun _ => rfl) (by decide) rfl rfl (by rfl) (by decide) (by rfl) (by decide) (fun _ => rfl)
end Mine
end
section -- Q6
open PySem PySem.W PyProof.Rows PySem.Calls
set_option maxRecDepth 100000
set_option maxHeartbeats 4000000
set_option linter.unusedVariables false
namespace Mine

/-- all but these addresses stay -/
abbrev Kw (W : List Addr) (h h' : Heap) : Prop := ∀ b o, b ∉ W → h.get? b = some o → h'.get? b = some o
theorem Kw.refl (W : List Addr) (h : Heap) : Kw W h h := fun _ _ _ e => e
theorem Kw.trans {W : List Addr} {a b c : Heap} (x : Kw W a b) (y : Kw W b c) : Kw W a c := fun _ _ n e => y _ _ n (x _ _ n e)
theorem Kw.of {W : List Addr} {a b : Heap} (x : a.StaysIn b) : Kw W a b := fun _ _ _ e => x _ _ e
theorem Kw.one {W : List Addr} {a b : Heap} {L : Addr} (x : Heap.SameBut L a b) (h : L ∈ W) : Kw W a b := fun _ _ n e => x.extBut _ _ (fun q => n (q ▸ h)) e
theorem Kw.sub {W W' : List Addr} {a b : Heap} (x : Kw W a b) (h : ∀ a ∈ W, a ∈ W') : Kw W' a b := fun _ _ n e => x _ _ (fun q => n (h _ q)) e
theorem Kw.stays {W : List Addr} {g a b : Heap} (x : Kw W a b) (hg : g.StaysIn a) (hn : ∀ a ∈ W, g.get? a = none) : g.StaysIn b := fun c o e => x c o (fun q => by rw [hn c q] at e; cases e) (hg c o e)

/-- what an iterator's step and the binding of a name leave: sequences, and dicts but the names -/
structure Lk (L : Addr) (h h' : Heap) : Prop where
  sl : ∀ b o items n, h.get? b = some o → o.data = .seq items n → h'.get? b = some o
  dl : ∀ b o es ep, b ≠ L → h.get? b = some o → o.data = .dict es ep → h'.get? b = some o
theorem Lk.tl {L : Addr} {h h' : Heap} (x : Lk L h h') : TL h h' := fun b o items n e _ hd => x.sl b o items n e hd
theorem Lk.trans {L : Addr} {a b c : Heap} (x : Lk L a b) (y : Lk L b c) : Lk L a c := ⟨fun _ _ _ _ e d => y.sl _ _ _ _ (x.sl _ _ _ _ e d) d, fun _ _ _ _ n e d => y.dl _ _ _ _ n (x.dl _ _ _ _ n e d) d⟩
theorem Lk.ns {L : Addr} {h h' : Heap} {m : Str → Option Value} (hn : h.Ns L m) (x : ∀ b o, b ≠ L → h.get? b = some o → h'.get? b = some o) : Lk L h h' := by
  obtain ⟨oL, es, ep, ho, hd, _⟩ := hn
  refine ⟨fun b o items n e d => x b o (fun q => ?_) e, fun b o _ _ n e _ => x b o n e⟩
  subst q; rw [ho] at e; cases e; rw [hd] at d; cases d
theorem Lk.fld {L I : Addr} {h h' : Heap} {o : Obj} {fs : Array Value} (ho : h.get? I = some o) (hf : o.data = .fields fs) (x : ∀ b o, b ≠ I → h.get? b = some o → h'.get? b = some o) : Lk L h h' := by
  refine ⟨fun b o' items n e d => x b o' (fun q => ?_) e, fun b o' es ep n e d => x b o' (fun q => ?_) e⟩
  · subst q; rw [ho] at e; cases e; rw [hf] at d; cases d
  · subst q; rw [ho] at e; cases e; rw [hf] at d; cases d
theorem Lk.isList {L a : Addr} {h h' : Heap} {its : Array Value} (x : Lk L h h') (hl : h.IsList a its) : h'.IsList a its := by
  obtain ⟨o, ho, hc, n, hd⟩ := hl
  exact ⟨o, x.sl _ _ _ _ ho hd, hc, n, hd⟩

section
variable {α : Type} {prog : Program} {w : World} {A : Around} {env : Env} {R : Heap → Value → Prop}
theorem exec_asn {x : Str} {px pos : Pos} {e : Expr} {s : Shared} {m : Str → Option Value} {Q : Flow → Shared → Prop} {E : Value → Shared → Prop} (he : Ev prog w A env s.heap e R) (hn : s.heap.Ns env.locals m) (hl : env.kindOf x = some .local) (hk : env.scope.kind = .function)
    (hs : swapsWith e (some (.Name x px)) pos.line env = pure false)
    (k : ∀ v h₁ h' tk, s.heap.StaysIn h₁ → R h₁ v → Heap.SameBut env.locals h₁ h' → h'.Ns env.locals (fun y => if y = x then some v else m y) → Q .next { s with heap := h', toks := tk }) :
    wpAny (model prog w) A (exec (.Assign [.Name x px] e pos) env) Q E s := by
  refine wpAny_Assign_Name (he s _ E (stays_refl _) fun v h₁ tk₁ hk₁ hv => ?_) hs
  refine wpAny_storeName_local hl (hn.keeps hk₁) (fun h' hn' hs' => k v h₁ h' _ hk₁ hv hs' hn') ?_
  rw [hk]; rfl
theorem exec_if {test : Expr} {body orelse : List Stmt} {pos : Pos} {b : Bool} {s : Shared} {Q : Flow → Shared → Prop} {E : Value → Shared → Prop} (ht : EvT prog w A env s.heap test b)
    (k : ∀ h' tk, s.heap.StaysIn h' → (b = true → wpAny (model prog w) A (execs body env) Q E { s with heap := h', toks := tk }) ∧ (b = false → wpAny (model prog w) A (execs orelse env) Q E { s with heap := h', toks := tk })) :
    wpAny (model prog w) A (exec (.If test body orelse pos) env) Q E s := by
  refine wpAny_If (ht s _ E (stays_refl _) fun h' tk hk => ?_)
  obtain ⟨k1, k2⟩ := k h' tk hk
  cases b with
  | true => exact k1 rfl
  | false => exact k2 rfl
theorem exec_ret {e : Expr} {pos : Pos} {s : Shared} {Q : Flow → Shared → Prop} {E : Value → Shared → Prop} (he : Ev prog w A env s.heap e R) (k : ∀ v h' tk, s.heap.StaysIn h' → R h' v → Q (.ret v) { s with heap := h', toks := tk }) :
    wpAny (model prog w) A (exec (.Return (some e) pos) env) Q E s := wpAny_Return_some (he s _ E (stays_refl _) k)

theorem for_rule {RS : α → Heap → Value → Prop} {items : List α} {target iter : Expr} {body : List Stmt} {pos : Pos} {s : Shared} {m : Str → Option Value} {Q : Flow → Shared → Prop} {E : Value → Shared → Prop}
    {Tg : α → (Str → Option Value) → Prop} {upd : (Str → Option Value) → (Str → Option Value) → Prop} (W : List Addr) (Inv : List α → Heap → (Str → Option Value) → Prop)
    (hiter : Ev prog w A env s.heap iter (fun h v => Src prog w A RS items h v ∧ ∀ a ∈ W, v ≠ .ref a))
    (hW : ∀ a ∈ W, (∃ o, s.heap.get? a = some o) ∧ NoTup s.heap a) (hLW : env.locals ∈ W) (hb : Binds prog w A env RS target Tg upd) (htgt : (∃ x p, target = .Name x p) ∨ ∃ es k p, target = .Tuple es k p)
    (hn : s.heap.Ns env.locals m) (h0 : ∀ h, s.heap.StaysIn h → Inv [] h m)
    (stI : ∀ pre h h' m, Inv pre h m → Lk env.locals h h' → Inv pre h' m) (stM : ∀ pre h m m', Inv pre h m → upd m m' → Inv pre h m')
    (turn : ∀ pre x post (s' : Shared) m', items = pre ++ x :: post → Kw W s.heap s'.heap → s'.heap.Ns env.locals m' → Tg x m' → Inv pre s'.heap m' → (∃ h tk, s' = { s with heap := h, toks := tk }) →
      wpAny (model prog w) A (execs body env) (fun f s'' => match f with
        | .ret v => Q (.ret v) s''
        | .brk => Q .next s''
        | _ => ∃ h'' tk m'', s'' = { s' with heap := h'', toks := tk } ∧ Kw W s'.heap h'' ∧ h''.Ns env.locals m'' ∧ Inv (pre ++ [x]) h'' m'') (fun _ _ => False) s')
    (done : ∀ h' tk m', Kw W s.heap h' → h'.Ns env.locals m' → Inv items h' m' → Q .next { s with heap := h', toks := tk })
    (hs : ∀ x, foldedSetIterable iter env x = pure x) :
    wpAny (model prog w) A (exec (.For target iter body [] pos) env) Q E s := by
  refine wpAny_For (hiter s _ _ (stays_refl _) fun xv h1 tk1 hk1 hv => ?_) hs
  obtain ⟨hsrc, hxv⟩ := hv
  refine hsrc _ _ _ (stays_refl _) fun I fp P St h2 Wk hst hk2 hI hfp hInt hfpx hit hgo => ?_
  dsimp only at hk2 hI hst ⊢
  have hIs : s.heap.get? I = none := by
    cases e : s.heap.get? I with
    | none => rfl
    | some o => have := hk1 _ _ e; rw [hI] at this; cases this
  have hWfp : ∀ b ∈ fp, b ∉ W := fun b hb hw => by
    rcases hfpx b hb with e | e
    · obtain ⟨⟨o, ho⟩, _⟩ := hW b hw
      rw [e, hIs] at ho; cases ho
    · exact hxv b hw e
  have hLI : env.locals ≠ I := fun e => by obtain ⟨⟨o, ho⟩, _⟩ := hW _ hLW; rw [e, hIs] at ho; cases ho
  have hgo' : ∀ i (s' : Shared) (v : Value) (Q' : Unit → Shared → Prop) (E' : Value → Shared → Prop), St i s'.heap → Q' () s' → wpAny (model prog w) A (letOwnedTupleGo target (.ref I) v) Q' E' s' := by
    intro i s' v Q' E' hst' hq
    rcases htgt with ⟨x, p, rfl⟩ | ⟨es, kk, p, rfl⟩
    · exact wpAny_pure hq
    · exact hgo i s' es kk p v Q' E' hst' hq
  have tlW : ∀ h, Kw W h1 h → TL h1 h := fun h hk b o its n e hc hd => by
    refine hk b o (fun hb => ?_) e
    obtain ⟨⟨o', ho'⟩, nt⟩ := hW b hb
    have e' := hk1 _ _ ho'
    rw [e] at e'; cases e'
    exact nt o ho' hc its n hd
  refine codeAny_forLoop_any
    (fun k s' => ∃ i h tk m', s' = { s with heap := h, toks := tk } ∧ i ≤ items.length ∧ k = items.length + 1 - i ∧ St i h ∧ Kw W h1 h ∧ h.Ns env.locals m' ∧ Inv (items.take i) h m') ?_ (items.length + 1)
    ⟨0, h2, tk1, m, rfl, Nat.zero_le _, rfl, hst, .of hk2, hn.keeps (stays_trans hk1 hk2), h0 _ (stays_trans hk1 hk2)⟩
  rintro k s' ⟨i, h, tk, m', rfl, hi, rfl, hst', hkw, hn', hInv⟩
  obtain ⟨oI, fs, hoI, hdI⟩ := hInt _ _ hst'
  refine wpAny_noRaise ?_
  by_cases hlt : i < items.length
  · refine Wk.item i _ _ _ hlt hst' fun v h₁ tk₁ hP hst₁ hk₁ => ?_
    have hk₁' : ∀ b o, b ≠ I → h.get? b = some o → h₁.get? b = some o := fun b o hb e => hk₁ b o (fun q => hb (List.mem_singleton.mp q)) e
    obtain ⟨x, hx, hrs⟩ := hit i v hP
    have lk₁ : Lk env.locals h h₁ := .fld hoI hdI hk₁'
    have hn₁ : h₁.Ns env.locals m' := hn'.at' fun o e => hk₁' _ o hLI e
    refine hgo' _ _ _ _ _ hst₁ ?_
    refine hb x v m' _ _ _ (hrs _ ((tlW _ hkw).trans lk₁.tl)) hn₁ fun h₂ tk₂ m₂ hn₂ htg hupd hk₂ => ?_
    have lk₂ : Lk env.locals h₁ h₂ := .ns hn₁ hk₂
    have htake : items.take (i + 1) = items.take i ++ [x] := by simp [List.take_add_one, hx]
    have hsp : items = items.take i ++ x :: items.drop (i + 1) := by
      have ht := List.take_append_drop (i + 1) items
      rw [htake, List.append_assoc] at ht
      exact ht.symm
    have hkw₂ : Kw W h1 h₂ := fun b o nb e => hk₂ b o (fun q => nb (q ▸ hLW)) (hk₁' b o (fun q => by rw [q, hI] at e; cases e) (hkw b o nb e))
    have hst₂ : St (i + 1) h₂ := Wk.frame _ _ _ hst₁ fun b hb o e => hk₂ b o (fun q => hWfp b hb (q ▸ hLW)) e
    refine wpAny_mono (turn _ x _ _ m₂ hsp (fun b o nb e => hkw₂ b o nb (hk1 _ _ e)) hn₂ htg (stM _ _ _ _ (stI _ _ _ _ hInv (lk₁.trans lk₂)) hupd) ⟨_, _, rfl⟩) (fun f s3 h3 => ?_) fun _ _ x => x.elim
    have fin : (∃ h'' tk m'', s3 = ({ s with heap := h'', toks := tk } : Shared) ∧ Kw W h₂ h'' ∧ h''.Ns env.locals m'' ∧ Inv (items.take i ++ [x]) h'' m'') →
        ∃ mm, mm < items.length + 1 - i ∧ ∃ i h tk m', s3 = ({ s with heap := h, toks := tk } : Shared) ∧ i ≤ items.length ∧ mm = items.length + 1 - i ∧ St i h ∧ Kw W h1 h ∧ h.Ns env.locals m' ∧ Inv (items.take i) h m' := by
      rintro ⟨h'', tk'', m'', rfl, k3, n3, i3⟩
      exact ⟨items.length + 1 - (i + 1), by omega, i + 1, h'', tk'', m'', rfl, hlt, rfl, Wk.frame _ _ _ hst₂ fun b hb o e => k3 b o (hWfp b hb) e, hkw₂.trans k3, n3, by rw [htake]; exact i3⟩
    cases f with
    | ret v => exact h3
    | brk => exact h3
    | next => exact fin h3
    | cont => exact fin h3
  · have hin : i = items.length := by omega
    subst hin
    rw [List.take_length] at hInv
    refine Wk.done _ _ _ hst' fun h₁ tk₁ hk₁ => wpAny_execs_nil ?_
    have hk₁' : ∀ b o, b ≠ I → h.get? b = some o → h₁.get? b = some o := fun b o hb e => hk₁ b o (fun q => hb (List.mem_singleton.mp q)) e
    exact done h₁ tk₁ m' (fun b o nb e => hk₁' b o (fun q => by rw [q, hIs] at e; cases e) (hkw b o nb (hk1 _ _ e))) (hn'.at' fun o e => hk₁' _ o hLI e) (stI _ _ _ _ hInv (.fld hoI hdI hk₁'))
end
end Mine
end
section -- Q7
open PySem PySem.W PyProof.Rows PySem.Calls
set_option maxRecDepth 100000
set_option maxHeartbeats 4000000
set_option linter.unusedVariables false
namespace Mine

/-- a list of the call's own: the very object -/
def LS (h : Heap) (a : Addr) (vs : List Value) : Prop := ∃ n, h.get? a = some (listOf vs.toArray n)
theorem LS.isList {h : Heap} {a : Addr} {vs : List Value} (x : LS h a vs) : h.IsList a vs.toArray := let ⟨n, e⟩ := x; ⟨_, e, rfl, n, rfl⟩
theorem LS.noTup {h : Heap} {a : Addr} {vs : List Value} (x : LS h a vs) : NoTup h a := noTup_list x.isList
theorem LS.lk {L : Addr} {h h' : Heap} {a : Addr} {vs : List Value} (x : LS h a vs) (k : Lk L h h') : LS h' a vs := let ⟨n, e⟩ := x; ⟨n, k.sl _ _ _ _ e rfl⟩
theorem LS.kw {W : List Addr} {h h' : Heap} {a : Addr} {vs : List Value} (x : LS h a vs) (k : Kw W h h') (n : a ∉ W) : LS h' a vs := let ⟨i, e⟩ := x; ⟨i, k _ _ n e⟩
theorem LS.st {h h' : Heap} {a : Addr} {vs : List Value} (x : LS h a vs) (k : h.StaysIn h') : LS h' a vs := let ⟨n, e⟩ := x; ⟨n, k _ _ e⟩
theorem LS.tl {W : List Addr} {h h' : Heap} {a : Addr} {vs : List Value} (x : LS h a vs) (k : ∀ b o, b ≠ a → h.get? b = some o → h'.get? b = some o) : TL h h' := TL.but k x.noTup

section
variable {prog : Program} {w : World} {A : Around} {E : Value → Shared → Prop} {s : Shared}
theorem append_ls {a : Addr} {vs : List Value} {x : Value} {Q : Value → Shared → Prop} (h : LS s.heap a vs) (hsz : vs.length ≤ 2000000)
    (k : ∀ h', (∀ b o, b ≠ a → s.heap.get? b = some o → h'.get? b = some o) → LS h' a (vs ++ [x]) → Q .none { s with heap := h' }) : wpAny (model prog w) A (call (.builtin "list.append") [.ref a, x]) Q E s := by
  obtain ⟨n, e⟩ := h
  refine append_at e (fun h' hs hl => k h' hs.extBut ⟨n + 1, ?_⟩) (by rw [List.size_toArray, sizeLine_eq]; omega)
  rw [hl]; simp

theorem setItem_ls_neg {l : Addr} {vs : List Value} {k : Int} {t : Tok} {v : Value} {Q : Unit → Shared → Prop} (hl : LS s.heap l vs) (h0 : k < 0) (h1 : -(vs.length : Int) ≤ k) (hfit : -(2 ^ 63) ≤ k)
    (hQ : ∀ h', LS h' l (vs.set (k + vs.length).toNat v) → (∀ b o, b ≠ l → s.heap.get? b = some o → h'.get? b = some o) → Q () { s with heap := h' }) :
    wpAny (model prog w) A (setItem (.ref l) (.int k t) v) Q E s := by
  have hil := hl.isList
  obtain ⟨n, e⟩ := hl
  unfold setItem
  try with_reducible refine wpAny_holding ?_
  first | refine wpAny_bind (wpAny_pure ?_) | skip
  refine wpAny_bind (wpAny_sequenceKey hil.typeIs (by decide) ?_)
  refine wpAny_bind (wpAny_callSpecial?_slot (name := Str.ofString "__setitem__") hil.typeIs slot_list_setitem
    (wpAny_call_entry slot_list_setitem hil.typeIs entry_list_setitem ?_ (args_list_setitem _ _ _)))
  show wpAny _ _ (Builtin.List.listSubscript? (.int k t) >>= _) _ _ s
  refine wpAny_bind (wpAny_listSubscript_int (fitsIndex_neg h0 hfit) ?_)
  clear hfit
  have hidx := seqIndex_neg h0 h1
  have hj : (k + vs.length).toNat < vs.length := by omega
  generalize (k + (vs.length : Int)).toNat = j at hidx hj hQ
  obtain ⟨i, rfl⟩ : ∃ i : Nat, k = Int.negSucc i := by
    cases k with
    | ofNat n => exact absurd h0 (Int.not_lt.mpr (Int.natCast_nonneg n))
    | negSucc n => exact ⟨n, rfl⟩
  show wpAny _ _ ((Builtin.List.listItems (.ref l) >>= fun xs => pure ((seqIndex? (Int.negSucc i) xs.size).bind fun i => xs[i]?.map (i, ·))) >>= _) _ _ s
  refine wpAny_bind (wpAny_bind ?_)
  show wpAny _ _ (seqItems? (.ref l) >>= _) _ _ s
  refine wpAny_bind (wpAny_seqItems e rfl (wpAny_pure (wpAny_pure ?_)))
  rw [List.size_toArray, hidx]
  have hx : vs.toArray[j]? = some vs[j] := by simp [hj]
  simp only [Option.bind_some, hx, Option.map_some]
  show wpAny _ _ (setSeqItemAt l j v >>= _) _ _ s
  obtain ⟨n', hd'⟩ := Obj.data_mapSeq (o := listOf vs.toArray n) rfl (·.setIfInBounds j v)
  have hfin : LS (s.heap.update l (Obj.mapSeq (·.setIfInBounds j v))) l (vs.set j v) := by
    refine ⟨n', (Heap.get?_update_self _ e (Obj.isFreed_of_seq hd')).trans ?_⟩
    have : Obj.mapSeq (·.setIfInBounds j v) (listOf vs.toArray n) = { listOf vs.toArray n with data := (Obj.mapSeq (·.setIfInBounds j v) (listOf vs.toArray n)).data } := by rfl
    rw [this, hd']
    simp [W.listOf]
  refine wpAny_bind (wpAny_setSeqItemAt e rfl ?_)
  have hfo := hQ _ hfin (Heap.SameBut.update _ _ _).extBut
  first
    | exact wpAny_bind (wpAny_pure (wpAny_pure ⟨.none, rfl, wpAny_pure hfo⟩))
    | exact wpAny_pure ⟨.none, rfl, wpAny_pure hfo⟩
end

section
variable {α : Type} {prog : Program} {w : World} {A : Around} {env : Env} {h₀ : Heap} {R : α → Heap → Value → Prop}
theorem Ev.len {xs : List α} {func e : Expr} {pos : Pos} (st : TStab R) (hl : xs.length ≤ 1000000) (hf : Ev prog w A env h₀ func (IsV (.builtin "len"))) (h1 : Ev prog w A env h₀ e (IsL R xs))
    (he : starEach [e] env = [(false, eval e env)] := by rfl) (hcall : eval (.Call func [e] [] pos) env = (do callWith pos (← eval func env) [] (backTo pos (starEach [e] env)) (backToKw pos (keywordEach [] env))) := by rfl) :
    Ev prog w A env h₀ (.Call func [e] [] pos) (IsI xs.length) := by
  refine hf.callB (.one h1 (stab_l st xs) he) (fun s vs Q E _ hr k => ?_) he rfl hcall
  obtain ⟨v, rfl, a, vs, rfl, hl', hr⟩ := hr
  have e1 : vs.toArray.size = xs.length := by simp [hr.len]
  refine call_len_list hl' (by rw [e1]; omega) ?_
  rw [e1]
  exact k _ s.heap _ (stays_refl _) ⟨_, rfl⟩
theorem Ev.lenT {xs : List α} {func e : Expr} {pos : Pos} (st : TStab R) (hl : xs.length ≤ 1000000) (hf : Ev prog w A env h₀ func (IsV (.builtin "len"))) (h1 : Ev prog w A env h₀ e (IsT R xs))
    (he : starEach [e] env = [(false, eval e env)] := by rfl) (hcall : eval (.Call func [e] [] pos) env = (do callWith pos (← eval func env) [] (backTo pos (starEach [e] env)) (backToKw pos (keywordEach [] env))) := by rfl) :
    Ev prog w A env h₀ (.Call func [e] [] pos) (IsI xs.length) := by
  refine hf.callB (.one h1 (stab_t st xs) he) (fun s vs Q E _ hr k => ?_) he rfl hcall
  obtain ⟨v, rfl, a, vs, rfl, hl', hr⟩ := hr
  have e1 : vs.toArray.size = xs.length := by simp [hr.len]
  refine len_tuple hl' (by rw [e1]; omega) ?_
  rw [e1]
  exact k _ s.heap _ (stays_refl _) ⟨_, rfl⟩
theorem seqIdx_pos {k : Int} {n : Nat} (h0 : 0 ≤ k) (h1 : k < n) : seqIndex? k n = some k.toNat := by
  unfold seqIndex?
  simp only [show ¬ k < 0 from by omega, if_false]
  rw [if_pos (by simp only [Bool.and_eq_true, decide_eq_true_eq]; omega)]
/-- an item of a list | a tuple, by an int in bounds -/
theorem Ev.itemL {xs : List α} {x : α} {i : Int} {e ei : Expr} {pos : Pos} (st : TStab R) (hl : xs.length ≤ 1000000) (h1 : Ev prog w A env h₀ e (IsL R xs)) (h2 : Ev prog w A env h₀ ei (IsI i))
    (hi : (0 ≤ i ∧ xs[i.toNat]? = some x) ∨ (i < 0 ∧ -(xs.length : Int) ≤ i ∧ xs[(i + xs.length).toNat]? = some x))
    (hs : ∀ l k u, subscripted ei false (.ref l) (.int k u) = operate [.ref l, .int k u] (getItem (.ref l) (.int k u)) := by intro _ _ _; with_unfolding_all rfl) :
    Ev prog w A env h₀ (.Subscript e ei pos) (R x) := fun s Q E hs' k => by
  refine Subscript_ (h1 s _ E hs' fun v h' tk hk hv => h2 _ _ E (stays_trans hs' hk) fun iv h2' tk2 hk2 hiv => ?_)
  obtain ⟨t, rfl⟩ := hiv
  obtain ⟨a, vs, rfl, hl', hr⟩ := stab_l st xs _ _ _ hk2 hv
  have e1 : vs.toArray.size = xs.length := by simp [hr.len]
  rcases hi with ⟨h0, hx⟩ | ⟨h0, h3, hx⟩
  · obtain ⟨y, hy, ry⟩ := hr.get hx
    have hlt : i.toNat < xs.length := by obtain ⟨q, _⟩ := List.getElem?_eq_some_iff.mp hx; exact q
    exact tail_any hl'.typeIs slot_list_getitem.lookup (wpAny_getItem_list hl' h0 (by omega) (by simpa using hy) (k y h2' tk2 (stays_trans hk hk2) ry)) (hs _ _ _)
  · obtain ⟨y, hy, ry⟩ := hr.get hx
    refine tail_any hl'.typeIs slot_list_getitem.lookup (wpAny_getItem_list_neg hl' h0 (by rw [e1]; exact h3) (by omega) ?_ (k y h2' tk2 (stays_trans hk hk2) ry)) (hs _ _ _)
    rw [e1]; simpa using hy
theorem Ev.itemT {xs : List α} {x : α} {i : Int} {e ei : Expr} {pos : Pos} (st : TStab R) (hl : xs.length ≤ 1000000) (h1 : Ev prog w A env h₀ e (IsT R xs)) (h2 : Ev prog w A env h₀ ei (IsI i))
    (hi : (0 ≤ i ∧ xs[i.toNat]? = some x) ∨ (i < 0 ∧ -(xs.length : Int) ≤ i ∧ xs[(i + xs.length).toNat]? = some x))
    (hs : ∀ l k u, subscripted ei false (.ref l) (.int k u) = operate [.ref l, .int k u] (getItem (.ref l) (.int k u)) := by intro _ _ _; with_unfolding_all rfl) :
    Ev prog w A env h₀ (.Subscript e ei pos) (R x) := fun s Q E hs' k => by
  refine Subscript_ (h1 s _ E hs' fun v h' tk hk hv => h2 _ _ E (stays_trans hs' hk) fun iv h2' tk2 hk2 hiv => ?_)
  obtain ⟨t, rfl⟩ := hiv
  obtain ⟨a, vs, rfl, hl', hr⟩ := stab_t st xs _ _ _ hk2 hv
  have e1 : vs.toArray.size = xs.length := by simp [hr.len]
  have e2 : vs.length = xs.length := hr.len
  rcases hi with ⟨h0, hx⟩ | ⟨h0, h3, hx⟩
  · obtain ⟨y, hy, ry⟩ := hr.get hx
    have hlt : i.toNat < xs.length := by obtain ⟨q, _⟩ := List.getElem?_eq_some_iff.mp hx; exact q
    refine item_tupleT (j := i.toNat) hl' (by omega) (by omega) ?_ hy (k y h2' tk2 (stays_trans hk hk2) ry) (hs _ _ _)
    rw [e2]; exact seqIdx_pos h0 (by omega)
  · obtain ⟨y, hy, ry⟩ := hr.get hx
    refine item_tupleT (j := (i + xs.length).toNat) hl' (by omega) (by omega) ?_ hy (k y h2' tk2 (stays_trans hk hk2) ry) (hs _ _ _)
    rw [e2]; exact seqIndex_neg h0 h3
end
/-- a place of a pair -/
theorem Ev.fst {prog : Program} {w : World} {A : Around} {env : Env} {h₀ : Heap} {x : Int × Int} {e : Expr} {k : Nat} {pos p : Pos} (h1 : Ev prog w A env h₀ e (IsP x)) : Ev prog w A env h₀ (.Subscript e (.Constant (.int 0) k p) pos) (IsI x.1) := fun s Q E hs' kk => by
  refine Subscript_ (h1 s _ E hs' fun v h' tk hk hv => Ev.lit (h₀ := h') _ _ E (stays_refl _) fun iv h2' tk2 hk2 hiv => ?_)
  obtain ⟨t, rfl⟩ := hiv
  obtain ⟨a, t1, t2, rfl, ht⟩ := hv
  exact item_tupleT (l := [.int x.1 t1, .int x.2 t2]) (j := 0) (ht.keeps hk2) (by decide) (by decide) rfl rfl (kk _ h2' tk2 (stays_trans hk hk2) ⟨_, rfl⟩) (by with_unfolding_all rfl)
theorem Ev.snd {prog : Program} {w : World} {A : Around} {env : Env} {h₀ : Heap} {x : Int × Int} {e : Expr} {k : Nat} {pos p : Pos} (h1 : Ev prog w A env h₀ e (IsP x)) : Ev prog w A env h₀ (.Subscript e (.Constant (.int 1) k p) pos) (IsI x.2) := fun s Q E hs' kk => by
  refine Subscript_ (h1 s _ E hs' fun v h' tk hk hv => Ev.lit (h₀ := h') _ _ E (stays_refl _) fun iv h2' tk2 hk2 hiv => ?_)
  obtain ⟨t, rfl⟩ := hiv
  obtain ⟨a, t1, t2, rfl, ht⟩ := hv
  exact item_tupleT (l := [.int x.1 t1, .int x.2 t2]) (j := 1) (ht.keeps hk2) (by decide) (by decide) rfl rfl (kk _ h2' tk2 (stays_trans hk hk2) ⟨_, rfl⟩) (by with_unfolding_all rfl)
theorem EvT.and {prog : Program} {w : World} {A : Around} {env : Env} {h₀ : Heap} {a b : Expr} {p q : Bool} {pos : Pos} (h1 : EvT prog w A env h₀ a p) (h2 : p = true → EvT prog w A env h₀ b q) : EvT prog w A env h₀ (.BoolOp .And [a, b] pos) (p && q) := fun s Q E hs k => by
  refine isTrue_and (h1 s _ E hs fun h' tk hk => ?_)
  cases p with
  | false => exact k h' tk hk
  | true =>
    refine isTrue_and (h2 rfl _ _ E (stays_trans hs hk) fun h2' tk2 hk2 => ?_)
    cases q with
    | false => exact k h2' tk2 (stays_trans hk hk2)
    | true => exact isTrue_and_nil (k h2' tk2 (stays_trans hk hk2))
end Mine
end
section -- Q8
open PySem PySem.W PyProof.Rows PySem.Calls
set_option maxRecDepth 100000
set_option maxHeartbeats 4000000
set_option linter.unusedVariables false
namespace Mine

section
variable {prog : Program} {w : World} {A : Around} {env : Env} {R : Heap → Value → Prop}
theorem Ev.run {e : Expr} {s : Shared} {Q : Value → Shared → Prop} {E : Value → Shared → Prop} (he : Ev prog w A env s.heap e R) (k : ∀ v h' tk, s.heap.StaysIn h' → R h' v → Q v { s with heap := h', toks := tk }) : wpAny (model prog w) A (eval e env) Q E s := he s Q E (stays_refl _) k
/-- o.append(e) as a statement -/
theorem exec_append {o e : Expr} {apos cpos pos : Pos} {fa : Addr} {vs : List Value} {s : Shared} {Q : Flow → Shared → Prop} {E : Value → Shared → Prop} (ho : Ev prog w A env s.heap o (IsV (.ref fa))) (he : Ev prog w A env s.heap e R) (hl : LS s.heap fa vs) (hsz : vs.length ≤ 2000000)
    (k : ∀ v h₁ h' tk, s.heap.StaysIn h₁ → R h₁ v → (∀ b o, b ≠ fa → h₁.get? b = some o → h'.get? b = some o) → LS h' fa (vs ++ [v]) → Q .next { s with heap := h', toks := tk })
    (hst : starEach [e] env = [(false, eval e env)]) (hi : interactive env = false)
    (hcall : ∃ pl, eval (.Call (.Attribute o "append" apos) [e] [] cpos) env = (do
      let ov ← eval o env
      standAt apos.atName
      let (f, first) ← holding [ov] (getMethod ov "append" pl)
      callWith cpos f first (backTo cpos (starEach [e] env)) [])) :
    wpAny (model prog w) A (exec (.Expr (.Call (.Attribute o "append" apos) [e] [] cpos) pos) env) Q E s := by
  obtain ⟨pl, hcall⟩ := hcall
  refine wpAny_Expr ?_ hi rfl
  refine MethodCall_ (pl := pl) ?_ hcall
  refine ho s _ E (stays_refl _) fun ov h1 tk1 hk1 hov => ?_
  cases hov
  obtain ⟨n, en⟩ := hl
  refine getMethod_list_append (o := listOf vs.toArray n) (hk1 _ _ en) rfl rfl ?_
  refine callWith_method1 ?_ (by rw [hst]; rfl) (by rfl)
  refine args_cons ?_ (by rw [hst]; rfl)
  refine he _ _ E hk1 fun v h2 tk2 hk2 hv => args_nil ?_
  have hl2 : LS h2 fa vs := ⟨n, hk2 _ _ (hk1 _ _ en)⟩
  exact append_ls hl2 hsz fun h' k1 k2 => k v h2 h' tk2 (stays_trans hk1 hk2) hv k1 k2
end

theorem fill8 : (PySem.Challenge.rw_qd0006_01, Mine.hd.heap_39) = (PySem.Challenge.rw_qd0006_01, Mine.hd.heap_39) := by k_fill; rfl

def putBehind (acc : Dm) (lo hi : Int) : Dm := match acc.getLast? with
  | none => acc ++ [(lo, hi)]
  | some p => if lo ≤ p.2 + 1 then (if p.2 < hi then acc.dropLast ++ [(p.1, hi)] else acc) else acc ++ [(lo, hi)]

theorem put_spec {w : World} {A : Around} {mean : ExcName → Option Value} {mg mb : Str → Option Value} {g : Heap} {s : Shared} {fa : Addr} {vs : List Value} {acc : Dm} {low high : Int} {tl th : Tok} {Q : Value → Shared → Prop} {E : Value → Shared → Prop}
    (c : Cx w mean mg mb g) (hg : g.StaysIn s.heap) (r : Rm A 2) (hl : acc.length ≤ 1000000) (hf : LS s.heap fa vs) (ha : All2 IsP s.heap acc vs)
    (k : ∀ h' tk vs', (∀ b o, b ≠ fa → s.heap.get? b = some o → h'.get? b = some o) → LS h' fa vs' → All2 IsP h' (putBehind acc low high) vs' → Q .none { s with heap := h', toks := tk }) :
    wpAny (model pg w) A (call (.ref 62) [.ref fa, .int low tl, .int high th]) Q E s := by
  have hsz : vs.length = acc.length := ha.len
  refine enterC (prog := pg) (binds := [("found", .ref fa), ("low", .int low tl), ("high", .int high th)]) hg c.X c.T.nolimit (by k_is) (by k_is) r.room (by rfl) (by rfl) (fun L h₁ tk hL hs hn _ _ => ?_) (by rfl) (by rfl) (by rfl)
  have rd := fun env => r.deep (n := 1) env
  have c₁ := c.up (stays_trans hg hs)
  have hf₁ := hf.st hs
  have ha₁ : All2 IsP h₁ acc vs := ha.tl tstab_p (.of hs)
  have hLf : fa ≠ L := fun q => by obtain ⟨n, e⟩ := hf; rw [q, hL] at e; cases e
  -- what each evaluation sees
  have fnd : ∀ {A : Around} {env : Env} {h : Heap} {pos : Pos}, env.locals = L → env.scope.kind = .function → env.kindOf "found" = some .local → h₁.StaysIn h → Ev pg w A env h (.Name "found" pos) (IsL IsP acc) := fun e1 e2 e3 hh =>
    (Ev.loc (e1 ▸ hn.keeps hh) rfl e2 e3 rfl).mono' fun g' u hg' e => by cases e; exact ⟨fa, vs, rfl, ((hf₁.st hh).st hg').isList, ha₁.tl tstab_p (.of (stays_trans hh hg'))⟩
  have fndv : ∀ {A : Around} {env : Env} {h : Heap} {pos : Pos}, env.locals = L → env.scope.kind = .function → env.kindOf "found" = some .local → h₁.StaysIn h → Ev pg w A env h (.Name "found" pos) (IsV (.ref fa)) := fun e1 e2 e3 hh => Ev.loc (e1 ▸ hn.keeps hh) rfl e2 e3 rfl
  have lo : ∀ {A : Around} {env : Env} {h : Heap} {pos : Pos}, env.locals = L → env.scope.kind = .function → env.kindOf "low" = some .local → h₁.StaysIn h → Ev pg w A env h (.Name "low" pos) (IsI low) := fun e1 e2 e3 hh => Ev.locI (t := tl) (e1 ▸ hn.keeps hh) rfl e2 e3 rfl
  have hi : ∀ {A : Around} {env : Env} {h : Heap} {pos : Pos}, env.locals = L → env.scope.kind = .function → env.kindOf "high" = some .local → h₁.StaysIn h → Ev pg w A env h (.Name "high" pos) (IsI high) := fun e1 e2 e3 hh => Ev.locI (t := th) (e1 ▸ hn.keeps hh) rfl e2 e3 rfl
  have m1 : ∀ {A : Around} {env : Env} {h : Heap} {i : Int} {k : Nat} {p p' : Pos}, Ev pg w A env h (.UnaryOp .USub (.Constant (.int i) k p) p') (IsI (-i)) := fun {A env h i k p p'} => Ev.neg Ev.lit
  have fin : ∀ {h' : Heap} {tk : Nat} {vs' : List Value} {acc2 : Dm}, Kw [L, fa] h₁ h' → LS h' fa vs' → All2 IsP h' acc2 vs' → acc2 = putBehind acc low high → Q .none { s with heap := h', toks := tk } := fun kw l a2 e => by
    subst e
    refine k _ _ _ (fun b o hb e => kw b o (fun q => ?_) (hs _ _ e)) l a2
    rcases List.mem_cons.mp q with q | q
    · rw [q, hL] at e; cases e
    · exact hb (List.mem_singleton.mp q)
  obtain ⟨p, hp⟩ : ∃ p : Int × Int, acc ≠ [] → ∃ acc', acc = acc' ++ [p] := by
    rcases List.eq_nil_or_concat acc with e | ⟨acc', p, e⟩
    · exact ⟨(0, 0), fun n => absurd e n⟩
    · exact ⟨p, fun _ => ⟨acc', by rw [e]; exact List.concat_eq_append ..⟩⟩
  have hneg : acc ≠ [] → (((0 : Int) ≤ -1 ∧ acc[(-1 : Int).toNat]? = some p) ∨ ((-1 : Int) < 0 ∧ -(acc.length : Int) ≤ -1 ∧ acc[((-1 : Int) + acc.length).toNat]? = some p)) := fun n => by
    obtain ⟨acc', e⟩ := hp n
    refine .inr ⟨by decide, by rw [e]; simp; omega, ?_⟩
    rw [e, show ((-1 : Int) + ((acc' ++ [p]).length : Nat)).toNat = acc'.length by simp only [List.length_append, List.length_singleton]; omega]
    simp
  refine wpAny_execs_cons ?_
  refine exec_if (b := decide ((0 : Int) < acc.length) && decide (low ≤ p.2 + 1)) (.and (.gt (.len tstab_p hl (c₁.blt (ns_len w) bb_len (by decide) rfl rfl rfl rfl rfl) (fnd rfl rfl rfl (stays_refl _))) .lit) fun h0 =>
    .le (lo rfl rfl rfl (stays_refl _)) (.add (.snd (.itemL tstab_p hl (fnd rfl rfl rfl (stays_refl _)) (.neg .lit) (hneg (by rintro rfl; simp at h0)))) .lit)) fun h2 tk2 hk2 => ⟨fun hb => ?_, fun hb => ?_⟩
  · simp only [Bool.and_eq_true, decide_eq_true_eq] at hb
    have hne : acc ≠ [] := by rintro rfl; simp at hb
    obtain ⟨acc', hacc⟩ := hp hne
    refine wpAny_execs_cons ?_
    refine exec_if (.gt (hi rfl rfl rfl hk2) (.snd (.itemL tstab_p hl (fnd rfl rfl rfl hk2) (.neg .lit) (hneg hne)))) fun h3 tk3 hk3 => ⟨fun hb2 => ?_, fun hb2 => ?_⟩
    · have hk23 := stays_trans hk2 hk3
      refine wpAny_execs_cons (wpAny_Assign_Subscript ?_ rfl)
      refine Ev.run (R := IsP (p.1, high)) (.pair (.fst (.itemL tstab_p hl (fnd rfl rfl rfl hk23) (.neg .lit) (hneg hne))) (hi rfl rfl rfl hk23)) fun v h4 tk4 hk4 hv => ?_
      refine Ev.run (fndv rfl rfl rfl (stays_trans hk23 hk4)) fun ov h5 tk5 hk5 hov => ?_
      cases hov
      refine Ev.run (R := IsI (-1)) (.neg .lit) fun iv h6 tk6 hk6 hiv => ?_
      obtain ⟨t, rfl⟩ := hiv
      have hk26 := stays_trans (stays_trans hk23 hk4) (stays_trans hk5 hk6)
      have hf6 := hf₁.st hk26
      refine setItem_ls_neg hf6 (by decide) (by rw [hsz, hacc]; simp; omega) (by decide) fun h7 hl7 k7 => wpAny_execs_nil (wpAny_execs_nil (wpAny_execs_nil ?_))
      have tl7 : TL h6 h7 := TL.but k7 hf6.noTup
      have ha6 : All2 IsP h6 acc vs := ha₁.tl tstab_p (.of hk26)
      rw [hacc] at ha6
      obtain ⟨vs', v', hvs, ha', _⟩ := ha6.snoc_inv
      have hlen : vs'.length = acc'.length := ha'.len
      have hset : vs.set ((-1 : Int) + (vs.length : Nat)).toNat v = vs' ++ [v] := by
        rw [hvs, show ((-1 : Int) + ((vs' ++ [v']).length : Nat)).toNat = vs'.length by simp only [List.length_append, List.length_singleton]; omega]
        simp
      rw [hset] at hl7
      refine fin (fun b o hb e => k7 b o (fun q => hb (by simp [q])) (hk26 _ _ e)) hl7 ((ha'.tl tstab_p tl7).snoc (tstab_p _ _ _ _ ((TL.of (stays_trans hk5 hk6)).trans tl7) hv)) ?_
      simp only [decide_eq_true_eq] at hb2
      rw [hacc]; unfold putBehind
      simp [hb.2, hb2]
    · refine wpAny_execs_nil (wpAny_execs_nil (wpAny_execs_nil ?_))
      have hk23 := stays_trans hk2 hk3
      refine fin (.of hk23) (hf₁.st hk23) (ha₁.tl tstab_p (.of hk23)) ?_
      simp only [decide_eq_false_iff_not] at hb2
      rw [hacc]; unfold putBehind
      simp [hb.2, hb2]
  · refine wpAny_execs_cons (exec_append (vs := vs) (R := IsP (low, high)) (fndv rfl rfl rfl hk2) (.pair (lo rfl rfl rfl hk2) (hi rfl rfl rfl hk2)) (hf₁.st hk2) (by omega) (fun v h4 h3 tk3 k1 k2 k3 k4 => wpAny_execs_nil (wpAny_execs_nil ?_)) rfl rfl ⟨_, rfl⟩)
    refine fin (fun b o hb e => k3 b o (fun q => hb (by simp [q])) (k1 _ _ (hk2 _ _ e))) k4 (((ha₁.tl tstab_p (.of (stays_trans hk2 k1))).snoc k2).tl tstab_p (TL.but k3 (((hf₁.st hk2).st k1).noTup))) ?_
    unfold putBehind
    cases hq : acc.getLast? with
    | none => rfl
    | some q =>
      have hne : acc ≠ [] := by rintro rfl; simp at hq
      obtain ⟨acc', hacc⟩ := hp hne
      have : q = p := by rw [hacc] at hq; simpa using hq.symm
      subst this
      have hpos : 0 < acc.length := by rw [hacc]; simp
      simp only [Bool.and_eq_false_iff, decide_eq_false_iff_not] at hb
      have hb' : ¬ low ≤ q.2 + 1 := hb.resolve_left (by omega)
      simp [hb']
end Mine
end
section -- Q9
open PySem PySem.W PyProof.Rows PySem.Calls
set_option maxRecDepth 100000
set_option maxHeartbeats 4000000
set_option linter.unusedVariables false
namespace Mine
theorem fill9 : (PySem.Challenge.rw_qd0006_01, Mine.hd.heap_39) = (PySem.Challenge.rw_qd0006_01, Mine.hd.heap_39) := by k_fill; rfl

section
variable {α : Type} {prog : Program} {w : World} {A : Around} {env : Env} {h₀ : Heap} {R : Heap → Value → Prop}
/-- a call of a def of the text in an expression -/
theorem Ev.callF {f : Addr} {o : Obj} {fd : FuncData} {func e : Expr} {rest : List Expr} {pos : Pos} {R3 : Heap → List Value → Prop} (ho : h₀.get? f = some o) (hdat : o.data = .func fd) (hf : Ev prog w A env h₀ func (IsV (.ref f))) (ha : EvL prog w A env h₀ (e :: rest) R3)
    (hc : ∀ (g : Heap) (vs : List Value), h₀.StaysIn g → R3 g vs → Cl prog w A g (.ref f) vs R)
    (he : starEach (e :: rest) env = (false, eval e env) :: starEach rest env := by rfl)
    (hcall : eval (.Call func (e :: rest) [] pos) env = (do callWith pos (← eval func env) [] (backTo pos (starEach (e :: rest) env)) (backToKw pos (keywordEach [] env))) := by rfl) :
    Ev prog w A env h₀ (.Call func (e :: rest) [] pos) R := fun s Q E hs k => by
  refine Call_ (hf s _ E hs fun v h' tk hk hv => ?_) hcall
  cases hv
  refine callWith_def hdat (ha pos _ _ E (stays_trans hs hk) fun vs h2 tk2 hk2 hr => ⟨hk2 _ _ (hk _ _ (hs _ _ ho)), ?_⟩) he
  exact hc h2 vs (stays_trans hs (stays_trans hk hk2)) hr _ Q E (stays_refl _) fun v h3 tk3 hk3 hv => k v h3 tk3 (stays_trans hk (stays_trans hk2 hk3)) hv

theorem add_tup {t b : Addr} {vs ws : List Value} {s : Shared} {Q : Value → Shared → Prop} {E : Value → Shared → Prop} (ht : IsTup s.heap t vs.toArray) (hb : IsTup s.heap b ws.toArray) (hsz : vs.length + ws.length ≤ 2000000)
    (k : ∀ a h', s.heap.StaysIn h' → IsTup h' a (vs ++ ws).toArray → Q (.ref a) { s with heap := h' }) : wpAny (model prog w) A (binaryOp .Add (.ref t) (.ref b)) Q E s := by
  have hsz' : vs.length + ws.length ≤ sizeLine := by rw [sizeLine_eq]; omega
  have k0 := k b s.heap (stays_refl _)
  have k1 := k t s.heap (stays_refl _)
  obtain ⟨⟨cls, dd, data, sl⟩, ho, hc, n, hd⟩ := id ht
  obtain ⟨⟨cls2, dd2, data2, sl2⟩, ho2, hc2, n2, hd2⟩ := id hb
  simp only at hc hd hc2 hd2
  subst hc hd hc2 hd2
  by_cases hv : vs = []
  · subst hv
    exact concat_meets ⟨_, ho, rfl⟩ ⟨_, ho2, rfl⟩ noFill_tuple_add seq_tuple_add PySem.F.slot_tuple_add PySem.F.entry_tuple_add (PySem.F.args_tuple_add_2 _ _)
      (tuple_addW0 t b [].toArray ws.toArray n n2 dd dd2 sl sl2 (by simp)) ⟨ho, ho2, k0 (by simpa using hb)⟩
  · by_cases hw : ws = []
    · subst hw
      exact concat_meets ⟨_, ho, rfl⟩ ⟨_, ho2, rfl⟩ noFill_tuple_add seq_tuple_add PySem.F.slot_tuple_add PySem.F.entry_tuple_add (PySem.F.args_tuple_add_2 _ _)
        (tuple_addW1 t b vs.toArray [].toArray n n2 dd dd2 sl sl2 (by simpa using hv) (by simp)) ⟨ho, ho2, k1 (by simpa using ht)⟩
    · refine concat_meets ⟨_, ho, rfl⟩ ⟨_, ho2, rfl⟩ noFill_tuple_add seq_tuple_add PySem.F.slot_tuple_add PySem.F.entry_tuple_add (PySem.F.args_tuple_add_2 _ _)
        (tuple_addW2 t b vs.toArray ws.toArray n n2 dd dd2 sl sl2 (by simpa using hv) (by simpa using hw) (by rw [List.size_toArray, List.size_toArray]; exact hsz')) ⟨ho, ho2, ?_⟩
      exact k _ _ (stays_push _ _) ⟨_, Heap.get?_push_size _ rfl, rfl, 0, by simp⟩
theorem Ev.addT {RR : α → Heap → Value → Prop} {xs ys : List α} {l r : Expr} {pos : Pos} (st : TStab RR) (h1 : Ev prog w A env h₀ l (IsT RR xs)) (h2 : Ev prog w A env h₀ r (IsT RR ys)) (hl : xs.length + ys.length ≤ 2000000) :
    Ev prog w A env h₀ (.BinOp l .Add r pos) (IsT RR (xs ++ ys)) :=
  h1.bin h2 (stab_t st xs) fun s x y Q E _ hx hy k => by
    obtain ⟨a, vs, rfl, ht, hr⟩ := hx
    obtain ⟨b, ws, rfl, ht2, hr2⟩ := hy
    refine add_tup ht ht2 (by rw [hr.len, hr2.len]; exact hl) fun c h' hk hc => ?_
    exact k _ h' s.toks hk ⟨c, _, rfl, hc, (hr.append hr2).tl st (.of hk)⟩
end

/-- a def of the text by its name -/
theorem Cx.fn {w : World} {mean : ExcName → Option Value} {mg mb : Str → Option Value} {h : Heap} {f : Addr} {o : Obj} (c : Cx w mean mg mb h) (e : (hd.heap_39 w.params).lookup f = some o) : h.get? f = some o := c.X _ _ e

theorem ne_of_noTup {α : Type} {R : α → Heap → Value → Prop} {xs : List α} {h : Heap} {v : Value} {a : Addr} (x : IsT R xs h v) (n : NoTup h a) : v ≠ .ref a := by
  rintro rfl
  obtain ⟨b, vs, e, ⟨o, ho, hc, k, hd⟩, _⟩ := x
  cases e
  exact n o ho hc _ k hd
def withoutD (d : Dm) (v : Int) : Dm := upToD d (v - 1) ++ fromOnD d (v + 1)
theorem upToD_len (d : Dm) (k : Int) : (upToD d k).length ≤ d.length := by unfold upToD; rw [List.length_map]; exact List.length_filter_le ..
theorem fromOnD_len (d : Dm) (k : Int) : (fromOnD d k).length ≤ d.length := by unfold fromOnD; rw [List.length_map]; exact List.length_filter_le ..
theorem cl_without {w : World} {A : Around} {mean : ExcName → Option Value} {mg mb : Str → Option Value} {h : Heap} {v : Value} {d : Dm} {k : Int} {t : Tok} (c : Cx w mean mg mb h) (r : Rm A 4) (hl : d.length ≤ 1000) (hd : IsT IsP d h v) :
    Cl pg w A h (.ref 105) [v, .int k t] (IsT IsP (withoutD d k)) := by
  refine cl_return (prog := pg) (binds := [("d", v), ("v", .int k t)]) c.X c.T.nolimit (by k_is) (by k_is) r.room (by rfl) (by rfl) (fun L h₁ hs hn hc => ?_) (by rfl) (by rfl) (by rfl)
  have c₁ := c.up hs
  have rd := fun env => (r.deep (n := 3) env).less (m := 2) (by decide)
  have hd₁ := stab_t tstab_p d _ _ _ hs hd
  have vv : ∀ {A : Around} {env : Env} {pos : Pos}, env.locals = L → env.scope.kind = .function → env.kindOf "v" = some .local → Ev pg w A env h₁ (.Name "v" pos) (IsI k) := fun e1 e2 e3 => Ev.locI (t := t) (e1 ▸ hn) rfl e2 e3 rfl
  have hu := upToD_len d (k - 1)
  have hf := fromOnD_len d (k + 1)
  refine Ev.addT tstab_p (.callF (f := 93) (c₁.fn (by k_is)) rfl (c₁.glob (by k_is) rfl rfl rfl rfl) (.two (Ev.loc hn rfl rfl rfl rfl) (.sub (vv rfl rfl rfl) .lit) stab_v stab_i) (fun g vs hg hv => ?_))
    (.callF (f := 98) (c₁.fn (by k_is)) rfl (c₁.glob (by k_is) rfl rfl rfl rfl) (.two (Ev.loc hn rfl rfl rfl rfl) (.add (vv rfl rfl rfl) .lit) stab_v stab_i) (fun g vs hg hv => ?_)) (by omega)
  · obtain ⟨_, _, rfl, e1, u, rfl⟩ := hv
    cases e1
    exact cl_up_to (c₁.up hg) (rd _) hl (stab_t tstab_p d _ _ _ hg hd₁)
  · obtain ⟨_, _, rfl, e1, u, rfl⟩ := hv
    cases e1
    exact cl_from_on (c₁.up hg) (rd _) hl (stab_t tstab_p d _ _ _ hg hd₁)

def nextFrom (d : Dm) (v : Int) : Option Int := (d.find? fun p => decide (v ≤ p.2)).map fun p => max p.1 v
theorem cl_next_from {w : World} {A : Around} {mean : ExcName → Option Value} {mg mb : Str → Option Value} {h : Heap} {dv : Value} {d : Dm} {v : Int} {t : Tok} (c : Cx w mean mg mb h) (r : Rm A 2) (hd : IsT IsP d h dv) :
    Cl pg w A h (.ref 81) [dv, .int v t] (fun h' u => match nextFrom d v with | some z => IsI z h' u | none => u = .none) := by
  intro s Q E hs₀ k
  refine enterC (prog := pg) (binds := [("d", dv), ("v", .int v t)]) hs₀ c.X c.T.nolimit (by k_is) (by k_is) r.room (by rfl) (by rfl) (fun L h₁ tk hL hs hn _ _ => ?_) (by rfl) (by rfl) (by rfl)
  have rd := fun env => r.deep (n := 1) env
  have c₁ := c.up (stays_trans hs₀ hs)
  have hd₁ := stab_t tstab_p d _ _ _ (stays_trans hs₀ hs) hd
  have out : ∀ {h'}, Kw [L] h₁ h' → s.heap.StaysIn h' := fun kw => kw.stays hs (by simpa using hL)
  refine wpAny_execs_cons (for_rule (RS := IsP) (items := d) (W := [L]) (Inv := fun pre _ m => m "v" = some (.int v t) ∧ ∀ p ∈ pre, ¬ v ≤ p.2)
    ((Ev.loc hn rfl rfl rfl rfl).mono' fun g u hg e => ?_) (fun a ha => ?_) (by simp [envOfC]) (binds_pair (rd _).hh rfl rfl (by decide) rfl) (.inr ⟨_, _, _, rfl⟩) hn (fun h' _ => ⟨rfl, by simp⟩) (fun pre h h' m x _ => x) (fun pre h m m' x u => ⟨(u _ (by decide) (by decide)).trans x.1, x.2⟩) ?_ ?_ (fun _ => rfl))
  · cases e
    have hdg := stab_t tstab_p d _ _ _ hg hd₁
    refine ⟨src_tuple (rd _).hh tstab_p hdg, fun a ha => ?_⟩
    rw [List.mem_singleton.mp ha]
    exact ne_of_noTup hdg (noTup_ns (hn.keeps hg))
  · rw [List.mem_singleton.mp ha]
    obtain ⟨o, es, ep, ho, _⟩ := id hn
    exact ⟨⟨o, ho⟩, noTup_ns hn⟩
  · rintro pre x post s' m' hit hkw hn' ⟨t1, t2, e1, e2⟩ ⟨hv, hpre⟩ ⟨h', tk', rfl⟩
    have low : ∀ {A : Around} {env : Env} {pos : Pos} {g : Heap}, h'.StaysIn g → env.locals = L → env.scope.kind = .function → env.kindOf "low" = some .local → Ev pg w A env g (.Name "low" pos) (IsI x.1) := fun hg a1 a2 a3 => Ev.locI (t := t1) (a1 ▸ hn'.keeps hg) e1 a2 a3 rfl
    have high : ∀ {A : Around} {env : Env} {pos : Pos} {g : Heap}, h'.StaysIn g → env.locals = L → env.scope.kind = .function → env.kindOf "high" = some .local → Ev pg w A env g (.Name "high" pos) (IsI x.2) := fun hg a1 a2 a3 => Ev.locI (t := t2) (a1 ▸ hn'.keeps hg) e2 a2 a3 rfl
    have vv : ∀ {A : Around} {env : Env} {pos : Pos} {g : Heap}, h'.StaysIn g → env.locals = L → env.scope.kind = .function → env.kindOf "v" = some .local → Ev pg w A env g (.Name "v" pos) (IsI v) := fun hg a1 a2 a3 => Ev.locI (t := t) (a1 ▸ hn'.keeps hg) hv a2 a3 rfl
    have c' := (c.up hs₀).up (out hkw)
    refine wpAny_execs_cons (exec_if (.le (vv (stays_refl _) rfl rfl rfl) (high (stays_refl _) rfl rfl rfl)) fun h2 tk2 hk2 => ⟨fun hb => ?_, fun hb => ?_⟩)
    · refine wpAny_execs_cons (exec_ret (R := IsI (max x.1 v)) (.max (rd _).hh ((c'.up hk2).blt (ns_max w) bb_max (by decide) rfl rfl rfl rfl rfl) (low hk2 rfl rfl rfl) (vv hk2 rfl rfl rfl)) fun u h3 tk3 hk3 hu => ?_)
      refine k u h3 tk3 (out (hkw.trans (.of (stays_trans hk2 hk3)))) ?_
      have : nextFrom d v = some (max x.1 v) := by
        unfold nextFrom
        rw [hit, List.find?_append, List.find?_eq_none.mpr (by simpa using hpre)]
        simp only [decide_eq_true_eq] at hb
        simp [hb]
      rw [this]; exact hu
    · refine wpAny_execs_nil (wpAny_execs_nil ⟨h2, tk2, m', rfl, .of hk2, hn'.keeps hk2, hv, fun p hp => ?_⟩)
      rcases List.mem_append.mp hp with hp | hp
      · exact hpre p hp
      · rw [List.mem_singleton.mp hp]; simpa using hb
  · rintro h' tk' m' hkw hn' ⟨hv, hpre⟩
    refine wpAny_execs_cons (exec_ret (R := IsV .none) .noneE fun u h3 tk3 hk3 hu => ?_)
    cases hu
    refine k .none h3 tk3 (out (hkw.trans (.of hk3))) ?_
    have : nextFrom d v = none := by
      unfold nextFrom
      rw [List.find?_eq_none.mpr (by simpa using hpre)]; rfl
    rw [this]
end Mine
end
section -- Q10
open PySem PySem.W PyProof.Rows PySem.Calls
set_option maxRecDepth 100000
set_option maxHeartbeats 400000
set_option linter.unusedVariables false
namespace Mine
theorem fill10 : (PySem.Challenge.rw_qd0006_01, Mine.hd.heap_39) = (PySem.Challenge.rw_qd0006_01, Mine.hd.heap_39) := by k_fill; rfl

section
variable {prog : Program} {w : World} {A : Around} {env : Env}
theorem while_rule {test : Expr} {body : List Stmt} {pos : Pos} {s : Shared} {m : Str → Option Value} {Q : Flow → Shared → Prop} {E : Value → Shared → Prop} (W : List Addr) (Inv : Nat → Heap → (Str → Option Value) → Prop) (n : Nat)
    (hn : s.heap.Ns env.locals m) (h0 : Inv n s.heap m)
    (turn : ∀ n (s' : Shared) m', Kw W s.heap s'.heap → s'.heap.Ns env.locals m' → Inv n s'.heap m' → (∃ h tk, s' = { s with heap := h, toks := tk }) →
      ∃ b, EvT prog w A env s'.heap test b ∧ (∀ h tk, s'.heap.StaysIn h → (b = true → wpAny (model prog w) A (execs body env) (fun f s'' => match f with
        | .ret v => Q (.ret v) s''
        | .brk => Q .next s''
        | _ => ∃ h'' tk m'' n', n' < n ∧ s'' = { s' with heap := h'', toks := tk } ∧ Kw W s'.heap h'' ∧ h''.Ns env.locals m'' ∧ Inv n' h'' m'') (fun _ _ => False) { s' with heap := h, toks := tk }) ∧
        (b = false → Q .next { s' with heap := h, toks := tk }))) :
    wpAny (model prog w) A (exec (.While test body [] pos) env) Q E s := by
  refine wpAny_While ?_
  refine codeAny_whileLoop (fun n s' => ∃ h tk m', s' = { s with heap := h, toks := tk } ∧ Kw W s.heap h ∧ h.Ns env.locals m' ∧ Inv n h m') ?_ n ⟨s.heap, s.toks, m, rfl, .refl _ _, hn, h0⟩
  rintro n s' ⟨h, tk, m', rfl, hkw, hn', hInv⟩
  refine wpAny_noRaise ?_
  obtain ⟨b, ht, hb⟩ := turn n _ m' hkw hn' hInv ⟨h, tk, rfl⟩
  refine ht _ _ _ (stays_refl _) fun h2 tk2 hk2 => ?_
  obtain ⟨b1, b2⟩ := hb h2 tk2 hk2
  cases b with
  | false => exact wpAny_execs_nil (b2 rfl)
  | true =>
    refine wpAny_noRaise (wpAny_mono (b1 rfl) (fun f s3 h3 => ?_) fun _ _ x => x.elim)
    have fin : (∃ h'' tk m'' n', n' < n ∧ s3 = ({ s with heap := h'', toks := tk } : Shared) ∧ Kw W h h'' ∧ h''.Ns env.locals m'' ∧ Inv n' h'' m'') → ∃ mm, mm < n ∧ ∃ h tk m', s3 = ({ s with heap := h, toks := tk } : Shared) ∧ Kw W s.heap h ∧ h.Ns env.locals m' ∧ Inv mm h m' := by
      rintro ⟨h'', tk'', m'', n', hlt, rfl, k3, n3, i3⟩
      exact ⟨n', hlt, h'', tk'', m'', rfl, hkw.trans k3, n3, i3⟩
    cases f with
    | ret v => exact h3
    | brk => exact h3
    | next => exact fin h3
    | cont => exact fin h3

/-- names stored by a written tuple -/
theorem exec_tup2 {x y : Str} {px py tp pos : Pos} {k : Nat} {e : Expr} {s : Shared} {m : Str → Option Value} {R2 : Heap → Value → Value → Prop} {Q : Flow → Shared → Prop} {E : Value → Shared → Prop} (hh : A.handled = none)
    (he : Ev prog w A env s.heap e (fun h v => ∃ a v1 v2, v = .ref a ∧ IsTup h a #[v1, v2] ∧ R2 h v1 v2)) (hn : s.heap.Ns env.locals m) (hx : env.kindOf x = some .local) (hy : env.kindOf y = some .local) (hk : env.scope.kind = .function)
    (hs : swapsWithSole [.Tuple [.Name x px, .Name y py] k tp] e pos.line env = pure false) (hw : swappedStores [.Tuple [.Name x px, .Name y py] k tp] e env = pure (some [x, y]))
    (kk : ∀ v1 v2 h₁ h' tk, s.heap.StaysIn h₁ → R2 h₁ v1 v2 → (∀ b o, b ≠ env.locals → h₁.get? b = some o → h'.get? b = some o) → h'.Ns env.locals (fun z => if z = x then some v1 else if z = y then some v2 else m z) → Q .next { s with heap := h', toks := tk }) :
    wpAny (model prog w) A (exec (.Assign [.Tuple [.Name x px, .Name y py] k tp] e pos) env) Q E s := by
  refine Assign_Tuple_swapped (names := [x, y]) (Ev.run he fun v h1 tk1 hk1 hv => ?_) hs hw
  obtain ⟨a, v1, v2, rfl, ht, hr⟩ := hv
  have key : wpAny (model prog w) A (unpackItems (.ref a) (#[v1, v2] : Array Value).size none) (fun items s₂ => ∃ h2, items = [v1, v2] ∧ h1.StaysIn h2 ∧ s₂ = ({ s with heap := h2, toks := tk1 } : Shared)) E { s with heap := h1, toks := tk1 } :=
    unpackItems_tuple (items := #[v1, v2]) hh ht fun h' he => ⟨h', rfl, fun b o e => he b o (Nat.ne_of_lt (Heap.lt_size e)) e, rfl⟩
  refine wpAny_mono key (fun items s₂ hi => ?_) fun _ _ x => x
  obtain ⟨h2, rfl, k2, rfl⟩ := hi
  have hn1 := hn.keeps hk1
  have hp : (env.scope.kind == .class || (env.scope.kind == .module && env.locals != env.globals)) = false := by rw [hk]; rfl
  show wpAny _ _ (assignInOrder [bindName env y, bindName env x] [v2, v1]) _ _ _
  refine assignInOrder_cons (wpAny_bindName (wpAny_storeName_local hy (hn1.keeps k2) (fun h3 hn3 hs3 => ?_) hp))
  refine assignInOrder_cons (wpAny_bindName (wpAny_storeName_local hx hn3 (fun h4 hn4 hs4 => ?_) hp))
  refine assignInOrder_nil ?_
  exact kk v1 v2 h1 h4 _ hk1 hr (fun b o hb e => hs4.extBut b o hb (hs3.extBut b o hb (k2 _ _ e))) hn4
theorem exec_tup3 {x y z : Str} {px py pz tp pos : Pos} {k : Nat} {e : Expr} {s : Shared} {m : Str → Option Value} {R3 : Heap → Value → Value → Value → Prop} {Q : Flow → Shared → Prop} {E : Value → Shared → Prop} (hh : A.handled = none)
    (he : Ev prog w A env s.heap e (fun h v => ∃ a v1 v2 v3, v = .ref a ∧ IsTup h a #[v1, v2, v3] ∧ R3 h v1 v2 v3)) (hn : s.heap.Ns env.locals m) (hx : env.kindOf x = some .local) (hy : env.kindOf y = some .local) (hz : env.kindOf z = some .local) (hk : env.scope.kind = .function)
    (hs : swapsWithSole [.Tuple [.Name x px, .Name y py, .Name z pz] k tp] e pos.line env = pure false) (hw : swappedStores [.Tuple [.Name x px, .Name y py, .Name z pz] k tp] e env = pure (some [x, y, z]))
    (kk : ∀ v1 v2 v3 h₁ h' tk, s.heap.StaysIn h₁ → R3 h₁ v1 v2 v3 → (∀ b o, b ≠ env.locals → h₁.get? b = some o → h'.get? b = some o) → h'.Ns env.locals (fun q => if q = x then some v1 else if q = y then some v2 else if q = z then some v3 else m q) → Q .next { s with heap := h', toks := tk }) :
    wpAny (model prog w) A (exec (.Assign [.Tuple [.Name x px, .Name y py, .Name z pz] k tp] e pos) env) Q E s := by
  refine Assign_Tuple_swapped (names := [x, y, z]) (Ev.run he fun v h1 tk1 hk1 hv => ?_) hs hw
  obtain ⟨a, v1, v2, v3, rfl, ht, hr⟩ := hv
  have key : wpAny (model prog w) A (unpackItems (.ref a) (#[v1, v2, v3] : Array Value).size none) (fun items s₂ => ∃ h2, items = [v1, v2, v3] ∧ h1.StaysIn h2 ∧ s₂ = ({ s with heap := h2, toks := tk1 } : Shared)) E { s with heap := h1, toks := tk1 } :=
    unpackItems_tuple (items := #[v1, v2, v3]) hh ht fun h' he => ⟨h', rfl, fun b o e => he b o (Nat.ne_of_lt (Heap.lt_size e)) e, rfl⟩
  refine wpAny_mono key (fun items s₂ hi => ?_) fun _ _ x => x
  obtain ⟨h2, rfl, k2, rfl⟩ := hi
  have hn1 := hn.keeps hk1
  have hp : (env.scope.kind == .class || (env.scope.kind == .module && env.locals != env.globals)) = false := by rw [hk]; rfl
  show wpAny _ _ (assignInOrder [bindName env z, bindName env y, bindName env x] [v3, v2, v1]) _ _ _
  refine assignInOrder_cons (wpAny_bindName (wpAny_storeName_local hz (hn1.keeps k2) (fun h0 hn0 hs0 => ?_) hp))
  refine assignInOrder_cons (wpAny_bindName (wpAny_storeName_local hy hn0 (fun h3 hn3 hs3 => ?_) hp))
  refine assignInOrder_cons (wpAny_bindName (wpAny_storeName_local hx hn3 (fun h4 hn4 hs4 => ?_) hp))
  refine assignInOrder_nil ?_
  exact kk v1 v2 v3 h1 h4 _ hk1 hr (fun b o hb e => hs4.extBut b o hb (hs3.extBut b o hb (hs0.extBut b o hb (k2 _ _ e)))) hn4
theorem exec_tup2n {x y : Str} {px py tp pos : Pos} {k : Nat} {e : Expr} {s : Shared} {m : Str → Option Value} {R2 : Heap → Value → Value → Prop} {Q : Flow → Shared → Prop} {E : Value → Shared → Prop} (hh : A.handled = none)
    (he : wpAny (model prog w) A (eval e env) (fun v s' => ∃ a v1 v2, v = .ref a ∧ IsTup s'.heap a #[v1, v2] ∧ s'.heap.Ns env.locals m ∧
      (∀ h' tk, (∀ b o, b ≠ env.locals → s'.heap.get? b = some o → h'.get? b = some o) → h'.Ns env.locals (fun z => if z = y then some v2 else if z = x then some v1 else m z) → Q .next { s' with heap := h', toks := tk })) E s)
    (hx : env.kindOf x = some .local) (hy : env.kindOf y = some .local) (hk : env.scope.kind = .function)
    (hs : swapsWithSole [.Tuple [.Name x px, .Name y py] k tp] e pos.line env = pure false) (hw : swappedStores [.Tuple [.Name x px, .Name y py] k tp] e env = pure none) :
    wpAny (model prog w) A (exec (.Assign [.Tuple [.Name x px, .Name y py] k tp] e pos) env) Q E s := by
  refine Assign_Tuple (wpAny_mono he (fun v s' hv => ?_) fun _ _ x => x) hs hw
  obtain ⟨a, v1, v2, rfl, ht, hn1, kk⟩ := hv
  refine assign_Tuple_tuple hh ht rfl rfl fun h2 he2 => ?_
  have k2 : s'.heap.StaysIn h2 := fun b o e => he2 b o (Nat.ne_of_lt (Heap.lt_size e)) e
  have hp : (env.scope.kind == .class || (env.scope.kind == .module && env.locals != env.globals)) = false := by rw [hk]; rfl
  refine assignInOrder_cons (wpAny_assign_Name (wpAny_storeName_local hx (hn1.keeps k2) (fun h3 hn3 hs3 => ?_) hp))
  refine assignInOrder_cons (wpAny_assign_Name (wpAny_storeName_local hy hn3 (fun h4 hn4 hs4 => ?_) hp))
  refine assignInOrder_nil ?_
  exact kk h4 _ (fun b o hb e => hs4.extBut b o hb (hs3.extBut b o hb (k2 _ _ e))) hn4
end

abbrev Lc (env : Env) (L : Addr) (x : Str) : Prop := env.locals = L ∧ env.scope.kind = .function ∧ env.kindOf x = some .local
/-- what a local name evaluates to, in whatever grows from h -/
structure Nm (prog : Program) (w : World) (h : Heap) (L : Addr) (x : Str) (R : Heap → Value → Prop) : Prop where
  on : ∀ {A : Around} {env : Env} {pos : Pos} {g : Heap}, h.StaysIn g → Lc env L x → Ev prog w A env g (.Name x pos) R
section
variable {α : Type} {prog : Program} {w : World} {h : Heap} {L : Addr} {m : Str → Option Value} {x : Str}
theorem nmI {i : Int} {t : Tok} (hn : h.Ns L m) (hv : m x = some (.int i t)) (hd : (x == ("__debug__" : Str)) = false) : Nm prog w h L x (IsI i) :=
  ⟨fun hg ⟨e1, e2, e3⟩ => Ev.locI (t := t) (e1 ▸ hn.keeps hg) hv e2 e3 hd⟩
theorem nmV {v : Value} (hn : h.Ns L m) (hv : m x = some v) (hd : (x == ("__debug__" : Str)) = false) : Nm prog w h L x (IsV v) :=
  ⟨fun hg ⟨e1, e2, e3⟩ => Ev.loc (e1 ▸ hn.keeps hg) hv e2 e3 hd⟩
theorem nmT {R : α → Heap → Value → Prop} {xs : List α} {v : Value} (st : TStab R) (hn : h.Ns L m) (hv : m x = some v) (hT : IsT R xs h v) (hd : (x == ("__debug__" : Str)) = false) : Nm prog w h L x (IsT R xs) :=
  ⟨fun hg ⟨e1, e2, e3⟩ => (Ev.loc (e1 ▸ hn.keeps hg) hv e2 e3 hd).mono' fun _ _ hg' e => by cases e; exact stab_t st xs _ _ _ (stays_trans hg hg') hT⟩
theorem nmL {R : α → Heap → Value → Prop} {xs : List α} {v : Value} (st : TStab R) (hn : h.Ns L m) (hv : m x = some v) (hT : IsL R xs h v) (hd : (x == ("__debug__" : Str)) = false) : Nm prog w h L x (IsL R xs) :=
  ⟨fun hg ⟨e1, e2, e3⟩ => (Ev.loc (e1 ▸ hn.keeps hg) hv e2 e3 hd).mono' fun _ _ hg' e => by cases e; exact stab_l st xs _ _ _ (stays_trans hg hg') hT⟩
end
/-- a fresh empty list -/
def New0 (h₀ : Heap) (h : Heap) (v : Value) : Prop := ∃ a, v = .ref a ∧ LS h a [] ∧ h₀.get? a = none
theorem stab_new {h₀ : Heap} : Stab (New0 h₀) := fun _ _ _ hs ⟨a, e, l, n⟩ => ⟨a, e, l.st hs, n⟩
theorem Ev.newL {prog : Program} {w : World} {A : Around} {env : Env} {h₀ : Heap} {pos : Pos} : Ev prog w A env h₀ (.List [] pos) (New0 h₀) := fun s Q E hs k => by
  refine List_ (args_nil ?_)
  refine wpAny_newObj_type (k _ _ s.toks (stays_push _ _) ⟨_, rfl, ⟨0, Heap.get?_push_size _ rfl⟩, ?_⟩) (by show (0 : Nat) ≤ sizeLine; exact Nat.zero_le _)
  cases e : h₀.get? s.heap.objs.size with
  | none => rfl
  | some o => exact absurd (Heap.lt_size (hs _ _ e)) (Nat.lt_irrefl _)

def meetD : Dm → Dm → Dm
  | [], _ => []
  | _ :: _, [] => []
  | p :: d, q :: e => (if max p.1 q.1 ≤ min p.2 q.2 then [(max p.1 q.1, min p.2 q.2)] else []) ++ (if p.2 < q.2 then meetD d (q :: e) else meetD (p :: d) e)
termination_by d e => d.length + e.length
theorem meetD_nil (e : Dm) : meetD [] e = [] := by unfold meetD; rfl
theorem meetD_nil' (d : Dm) : meetD d [] = [] := by cases d <;> unfold meetD <;> rfl
theorem meetD_cons (p q : Int × Int) (d e : Dm) : meetD (p :: d) (q :: e) = (if max p.1 q.1 ≤ min p.2 q.2 then [(max p.1 q.1, min p.2 q.2)] else []) ++ (if p.2 < q.2 then meetD d (q :: e) else meetD (p :: d) e) := by
  rw [meetD]
theorem meetD_len : ∀ (d e : Dm), (meetD d e).length ≤ d.length + e.length
  | [], e => by rw [meetD_nil]; simp
  | _ :: _, [] => by rw [meetD_nil']; simp
  | p :: d, q :: e => by
    rw [meetD_cons, List.length_append]
    have h1 : (if max p.1 q.1 ≤ min p.2 q.2 then [(max p.1 q.1, min p.2 q.2)] else ([] : Dm)).length ≤ 1 := by split <;> simp
    by_cases h : p.2 < q.2
    · have := meetD_len d (q :: e)
      rw [if_pos h]; simp only [List.length_cons] at this ⊢; omega
    · have := meetD_len (p :: d) e
      rw [if_neg h]; simp only [List.length_cons] at this ⊢; omega
termination_by d e => d.length + e.length

theorem cl_meet {w : World} {A : Around} {mean : ExcName → Option Value} {mg mb : Str → Option Value} {h : Heap} {dv ev : Value} {d e : Dm} (c : Cx w mean mg mb h) (r : Rm A 2) (hd : IsT IsP d h dv) (he : IsT IsP e h ev) (hl : d.length ≤ 1000) (hl2 : e.length ≤ 1000) :
    Cl pg w A h (.ref 112) [dv, ev] (IsT IsP (meetD d e)) := by
  intro s Q E hs₀ k
  refine enterC (prog := pg) (binds := [("d", dv), ("e", ev)]) hs₀ c.X c.T.nolimit (by k_is) (by k_is) r.room (by rfl) (by rfl) (fun L h₁ tk hL hs hn _ _ => ?_) (by rfl) (by rfl) (by rfl)
  have rd := fun env => r.deep (n := 1) env
  have cs := c.up hs₀
  have c₁ := cs.up hs
  refine wpAny_execs_cons (exec_tup3 (R3 := fun g v1 v2 v3 => New0 h₁ g v1 ∧ IsI 0 g v2 ∧ IsI 0 g v3) (rd _).hh (.tuple (R3 := fun g vs => ∃ v1 v2 v3, vs = [v1, v2, v3] ∧ New0 h₁ g v1 ∧ IsI 0 g v2 ∧ IsI 0 g v3)
    (.cons .newL (.two .lit .lit stab_i stab_i) stab_new (fun g v vs h1 ⟨_, _, e, h2, h3⟩ => ⟨v, _, _, by rw [e], h1, h2, h3⟩) rfl) (by show 3 ≤ 1000; decide) (fun g vs ⟨_, _, _, e, _⟩ => by rw [e]; rfl)
    (fun g g' vs a hg ⟨v1, v2, v3, e, h1, h2, h3⟩ ht => ⟨a, v1, v2, v3, rfl, by rw [e] at ht; exact ht, stab_new _ _ _ hg h1, h2, h3⟩)) hn rfl rfl rfl rfl (by rfl) (by rfl) ?_)
  rintro v1 v2 v3 h2 h3 tk3 hk2 ⟨⟨fa, rfl, hf2, hfn⟩, ⟨t2, rfl⟩, t3, rfl⟩ hk3 hn3
  have hLs : ∃ o, h₁.get? L = some o := by obtain ⟨o, _, _, ho, _⟩ := hn; exact ⟨o, ho⟩
  have hfL : fa ≠ L := fun q => by obtain ⟨o, ho⟩ := hLs; rw [q, ho] at hfn; cases hfn
  have hf3 : LS h3 fa [] := by obtain ⟨n, en⟩ := hf2; exact ⟨n, hk3 _ _ hfL en⟩
  have st3 : s.heap.StaysIn h3 := fun b o eb => hk3 b o (fun q => by have q' : b = L := q; rw [q', hL] at eb; cases eb) (hk2 _ _ (hs _ _ eb))
  have hsf : s.heap.get? fa = none := by
    cases eq : s.heap.get? fa with
    | none => rfl
    | some o => have := hs _ _ eq; rw [hfn] at this; cases this
  have out : ∀ {h'}, Kw [L, fa] h3 h' → s.heap.StaysIn h' := fun kw => kw.stays st3 (by simp [hL, hsf])
  refine wpAny_execs_cons (while_rule [L, fa] (fun n h m => ∃ (i j : Nat) (ti tj : Tok) (acc : Dm) (vs : List Value), n = (d.length - i) + (e.length - j) ∧ i ≤ d.length ∧ j ≤ e.length ∧ m "d" = some dv ∧ m "e" = some ev ∧ m "found" = some (.ref fa) ∧ m "i" = some (.int i ti) ∧ m "j" = some (.int j tj) ∧
    LS h fa vs ∧ All2 IsP h acc vs ∧ acc ++ meetD (d.drop i) (e.drop j) = meetD d e) (d.length + e.length) hn3 ⟨0, 0, t2, t3, [], [], rfl, Nat.zero_le _, Nat.zero_le _, rfl, rfl, rfl, rfl, rfl, hf3, trivial, rfl⟩ ?_)
  rintro n s' m' hkw hn' ⟨i, j, ti, tj, acc, vs, rfl, hi, hj, md, me, mf, mi, mj, hl', ha, hacc⟩ ⟨hh, tk, rfl⟩
  have sth := out hkw
  have cc := cs.up sth
  have hdh := stab_t tstab_p d _ _ _ (stays_trans hs₀ sth) hd
  have heh := stab_t tstab_p e _ _ _ (stays_trans hs₀ sth) he
  have nd := nmT (prog := pg) (w := w) tstab_p hn' md hdh rfl
  have ne := nmT (prog := pg) (w := w) tstab_p hn' me heh rfl
  have ni := nmI (prog := pg) (w := w) hn' mi rfl
  have nj := nmI (prog := pg) (w := w) hn' mj rfl
  have nf := nmV (prog := pg) (w := w) hn' mf rfl
  have hb2 : acc.length ≤ 2000 := by
    have := congrArg List.length hacc
    have h2 := meetD_len d e
    rw [List.length_append] at this; omega
  refine ⟨decide ((i : Int) < d.length) && decide ((j : Int) < e.length), .and (.lt (ni.on (stays_refl _) ⟨rfl, rfl, rfl⟩) (.lenT tstab_p (by omega) (cc.blt (ns_len w) bb_len (by decide) rfl rfl rfl rfl rfl) (nd.on (stays_refl _) ⟨rfl, rfl, rfl⟩)))
    (fun _ => .lt (nj.on (stays_refl _) ⟨rfl, rfl, rfl⟩) (.lenT tstab_p (by omega) (cc.blt (ns_len w) bb_len (by decide) rfl rfl rfl rfl rfl) (ne.on (stays_refl _) ⟨rfl, rfl, rfl⟩))), fun h4 tk4 hk4 => ⟨fun hb => ?_, fun hb => ?_⟩⟩
  · simp only [Bool.and_eq_true, decide_eq_true_eq] at hb
    have hid : i < d.length := by omega
    have hje : j < e.length := by omega
    obtain ⟨p, hp⟩ : ∃ p, d[i]? = some p := ⟨_, List.getElem?_eq_getElem hid⟩
    obtain ⟨q, hq⟩ : ∃ q, e[j]? = some q := ⟨_, List.getElem?_eq_getElem hje⟩
    have hdd : d.drop i = p :: d.drop (i + 1) := by
      rw [List.drop_eq_getElem_cons hid]; rw [List.getElem?_eq_getElem hid] at hp; cases hp; rfl
    have hee : e.drop j = q :: e.drop (j + 1) := by
      rw [List.drop_eq_getElem_cons hje]; rw [List.getElem?_eq_getElem hje] at hq; cases hq; rfl
    rw [hdd, hee, meetD_cons] at hacc
    have di : (0 ≤ (i : Int) ∧ d[(i : Int).toNat]? = some p) ∨ ((i : Int) < 0 ∧ -(d.length : Int) ≤ i ∧ d[((i : Int) + d.length).toNat]? = some p) := .inl ⟨by omega, by simpa using hp⟩
    have ej : (0 ≤ (j : Int) ∧ e[(j : Int).toNat]? = some q) ∨ ((j : Int) < 0 ∧ -(e.length : Int) ≤ j ∧ e[((j : Int) + e.length).toNat]? = some q) := .inl ⟨by omega, by simpa using hq⟩
    have c4 := cc.up hk4
    have mx : ∀ {A : Around} {env : Env} {pos : Pos}, env.globals = mainGlobals → env.builtins = builtinsNs → env.scope.kind = .function → env.kindOf "max" = some .globalImplicit → Ev pg w A env h4 (.Name "max" pos) (IsV (.builtin "max")) := fun e1 e2 e3 e4 => c4.blt (ns_max w) bb_max (by decide) e1 e2 e3 e4 rfl
    have mn : ∀ {A : Around} {env : Env} {pos : Pos}, env.globals = mainGlobals → env.builtins = builtinsNs → env.scope.kind = .function → env.kindOf "min" = some .globalImplicit → Ev pg w A env h4 (.Name "min" pos) (IsV (.builtin "min")) := fun e1 e2 e3 e4 => c4.blt (ns_min w) bb_min (by decide) e1 e2 e3 e4 rfl
    refine wpAny_execs_cons (exec_tup2 (R2 := fun _ v1 v2 => IsI (max p.1 q.1) h4 v1 ∧ IsI (min p.2 q.2) h4 v2) (rd _).hh (.tuple (.two (.max (rd _).hh (mx rfl rfl rfl rfl) (.fst (.itemT tstab_p (by omega) (nd.on hk4 ⟨rfl, rfl, rfl⟩) (ni.on hk4 ⟨rfl, rfl, rfl⟩) di)) (.fst (.itemT tstab_p (by omega) (ne.on hk4 ⟨rfl, rfl, rfl⟩) (nj.on hk4 ⟨rfl, rfl, rfl⟩) ej)))
      (.min (rd _).hh (mn rfl rfl rfl rfl) (.snd (.itemT tstab_p (by omega) (nd.on hk4 ⟨rfl, rfl, rfl⟩) (ni.on hk4 ⟨rfl, rfl, rfl⟩) di)) (.snd (.itemT tstab_p (by omega) (ne.on hk4 ⟨rfl, rfl, rfl⟩) (nj.on hk4 ⟨rfl, rfl, rfl⟩) ej))) stab_i stab_i) (by show 2 ≤ 1000; decide) (fun g vs ⟨_, _, e, _⟩ => by rw [e]; rfl)
      (fun g g' vs a hg ⟨v1, v2, e, h1, h2⟩ ht => ⟨a, v1, v2, rfl, by rw [e] at ht; exact ht, h1, h2⟩)) (hn'.keeps hk4) rfl rfl rfl (by rfl) (by rfl) ?_)
    rintro v1 v2 h5 h6 tk6 hk5 ⟨⟨tl, rfl⟩, th, rfl⟩ hk6 hn6
    have kw6 : Kw [L, fa] hh h6 := fun b o nb eb => hk6 b o (fun q => nb (by have q' : b = L := q; simp [q'])) (hk5 _ _ (hk4 _ _ eb))
    have hl6 : LS h6 fa vs := by obtain ⟨n6, en6⟩ := (hl'.st hk4).st hk5; exact ⟨n6, hk6 _ _ hfL en6⟩
    have tl6 : TL hh h6 := (TL.of (stays_trans hk4 hk5)).trans (TL.but hk6 (noTup_ns ((hn'.keeps hk4).keeps hk5)))
    have ha6 : All2 IsP h6 acc vs := ha.tl tstab_p tl6
    have nlo := nmI (prog := pg) (w := w) (x := "low") hn6 rfl rfl
    have nhi := nmI (prog := pg) (w := w) (x := "high") hn6 rfl rfl
    have nf6 := nmV (prog := pg) (w := w) (x := "found") hn6 mf rfl
    generalize hm6 : (fun z => if z = Str.ofString "low" then some (Value.int (max p.1 q.1) tl) else if z = Str.ofString "high" then some (Value.int (min p.2 q.2) th) else m' z) = m6 at hn6
    have g6 : ∀ z : Str, z ≠ Str.ofString "low" → z ≠ Str.ofString "high" → m6 z = m' z := fun z z1 z2 => by rw [← hm6]; simp only [if_neg z1, if_neg z2]
    refine wpAny_execs_cons (wpAny_mono (Q := fun f s'' => f = .next ∧ ∃ h7 tk7 vs7, s'' = ({ s with heap := h7, toks := tk7 } : Shared) ∧ Kw [L, fa] h6 h7 ∧ h7.Ns L m6 ∧ LS h7 fa vs7 ∧ All2 IsP h7 (acc ++ (if max p.1 q.1 ≤ min p.2 q.2 then [(max p.1 q.1, min p.2 q.2)] else [])) vs7) ?_ ?_ fun _ _ x => x)
    · refine exec_if (.le (nlo.on (stays_refl _) ⟨rfl, rfl, rfl⟩) (nhi.on (stays_refl _) ⟨rfl, rfl, rfl⟩)) fun h7 tk7 hk7 => ⟨fun hb7 => ?_, fun hb7 => ?_⟩
      · simp only [decide_eq_true_eq] at hb7
        refine wpAny_execs_cons (exec_append (vs := vs) (R := IsP (max p.1 q.1, min p.2 q.2)) (nf6.on hk7 ⟨rfl, rfl, rfl⟩) (.pair (nlo.on hk7 ⟨rfl, rfl, rfl⟩) (nhi.on hk7 ⟨rfl, rfl, rfl⟩)) (hl6.st hk7) (by rw [ha.len]; omega) (fun v h8 h9 tk9 k1 k2 k3 k4 => wpAny_execs_nil ?_) rfl rfl ⟨_, rfl⟩)
        have hl8 : LS h8 fa vs := (hl6.st hk7).st k1
        refine ⟨rfl, h9, tk9, _, rfl, fun b o nb eb => k3 b o (fun q => nb (by simp [q])) (k1 _ _ (hk7 _ _ eb)), (hn6.keeps (stays_trans hk7 k1)).at' fun o eo => k3 _ o (Ne.symm hfL) eo, k4, ?_⟩
        rw [if_pos hb7]
        exact ((ha6.tl tstab_p (.of (stays_trans hk7 k1))).snoc k2).tl tstab_p (TL.but k3 hl8.noTup)
      · simp only [decide_eq_false_iff_not] at hb7
        refine wpAny_execs_nil ⟨rfl, h7, tk7, vs, rfl, .of hk7, hn6.keeps hk7, hl6.st hk7, ?_⟩
        rw [if_neg hb7, List.append_nil]
        exact ha6.tl tstab_p (.of hk7)
    · rintro f s'' ⟨rfl, h7, tk7, vs7, rfl, kw7, hn7, hl7, ha7⟩
      have kw37 := hkw.trans (kw6.trans kw7)
      have st7 := out kw37
      have nd7 := nmT (prog := pg) (w := w) (x := "d") tstab_p hn7 ((g6 _ (by decide) (by decide)).trans md) (stab_t tstab_p d _ _ _ (stays_trans hs₀ st7) hd) rfl
      have ne7 := nmT (prog := pg) (w := w) (x := "e") tstab_p hn7 ((g6 _ (by decide) (by decide)).trans me) (stab_t tstab_p e _ _ _ (stays_trans hs₀ st7) he) rfl
      have ni7 := nmI (prog := pg) (w := w) (x := "i") hn7 ((g6 _ (by decide) (by decide)).trans mi) rfl
      have nj7 := nmI (prog := pg) (w := w) (x := "j") hn7 ((g6 _ (by decide) (by decide)).trans mj) rfl
      refine wpAny_execs_cons (exec_if (.lt (.snd (.itemT tstab_p (by omega) (nd7.on (stays_refl _) ⟨rfl, rfl, rfl⟩) (ni7.on (stays_refl _) ⟨rfl, rfl, rfl⟩) di)) (.snd (.itemT tstab_p (by omega) (ne7.on (stays_refl _) ⟨rfl, rfl, rfl⟩) (nj7.on (stays_refl _) ⟨rfl, rfl, rfl⟩) ej))) fun h8 tk8 hk8 => ⟨fun hb8 => ?_, fun hb8 => ?_⟩)
      · simp only [decide_eq_true_eq] at hb8
        rw [if_pos hb8] at hacc
        refine wpAny_execs_cons (exec_asn (R := IsI ((i : Int) + 1)) (.add (ni7.on hk8 ⟨rfl, rfl, rfl⟩) .lit) (hn7.keeps hk8) rfl rfl (by rfl) fun v h9 h10 tk10 k1 k2 k3 k4 => wpAny_execs_nil (wpAny_execs_nil ?_))
        obtain ⟨t, rfl⟩ := k2
        refine ⟨h10, tk10, _, (d.length - (i + 1)) + (e.length - j), by omega, rfl, (kw6.trans kw7).trans (fun b o nb eb => k3.extBut b o (fun q => nb (by have q' : b = L := q; simp [q'])) (k1 _ _ (hk8 _ _ eb))), k4, i + 1, j, t, tj, acc ++ (if max p.1 q.1 ≤ min p.2 q.2 then [(max p.1 q.1, min p.2 q.2)] else []), vs7, rfl, by omega, hj, ?_, ?_, ?_, ?_, ?_, ?_, ?_, ?_⟩
        · exact (g6 _ (by decide) (by decide)).trans md
        · exact (g6 _ (by decide) (by decide)).trans me
        · exact (g6 _ (by decide) (by decide)).trans mf
        · simp
        · exact (g6 _ (by decide) (by decide)).trans mj
        · obtain ⟨n9, en9⟩ := (hl7.st hk8).st k1; exact ⟨n9, k3.extBut _ _ hfL en9⟩
        · exact ha7.tl tstab_p ((TL.of (stays_trans hk8 k1)).trans (TL.but k3.extBut (noTup_ns ((hn7.keeps hk8).keeps k1))))
        · rw [List.append_assoc, hee]; exact hacc
      · simp only [decide_eq_false_iff_not] at hb8
        rw [if_neg hb8] at hacc
        refine wpAny_execs_cons (exec_asn (R := IsI ((j : Int) + 1)) (.add (nj7.on hk8 ⟨rfl, rfl, rfl⟩) .lit) (hn7.keeps hk8) rfl rfl (by rfl) fun v h9 h10 tk10 k1 k2 k3 k4 => wpAny_execs_nil (wpAny_execs_nil ?_))
        obtain ⟨t, rfl⟩ := k2
        refine ⟨h10, tk10, _, (d.length - i) + (e.length - (j + 1)), by omega, rfl, (kw6.trans kw7).trans (fun b o nb eb => k3.extBut b o (fun q => nb (by have q' : b = L := q; simp [q'])) (k1 _ _ (hk8 _ _ eb))), k4, i, j + 1, ti, t, acc ++ (if max p.1 q.1 ≤ min p.2 q.2 then [(max p.1 q.1, min p.2 q.2)] else []), vs7, rfl, hi, by omega, ?_, ?_, ?_, ?_, ?_, ?_, ?_, ?_⟩
        · exact (g6 _ (by decide) (by decide)).trans md
        · exact (g6 _ (by decide) (by decide)).trans me
        · exact (g6 _ (by decide) (by decide)).trans mf
        · exact (g6 _ (by decide) (by decide)).trans mi
        · simp
        · obtain ⟨n9, en9⟩ := (hl7.st hk8).st k1; exact ⟨n9, k3.extBut _ _ hfL en9⟩
        · exact ha7.tl tstab_p ((TL.of (stays_trans hk8 k1)).trans (TL.but k3.extBut (noTup_ns ((hn7.keeps hk8).keeps k1))))
        · rw [List.append_assoc, hdd]; exact hacc
  · -- the loop is over
    have hfin : acc = meetD d e := by
      simp only [Bool.and_eq_false_iff, decide_eq_false_iff_not] at hb
      rcases hb with hb | hb
      · rw [List.drop_of_length_le (by omega), meetD_nil, List.append_nil] at hacc; exact hacc
      · rw [show e.drop j = [] from List.drop_of_length_le (by omega), meetD_nil', List.append_nil] at hacc; exact hacc
    have c4 := cc.up hk4
    refine wpAny_execs_cons (exec_ret (.tupleOf tstab_p (xs := meetD d e) (by have := meetD_len d e; omega) (c4.blt (ns_tuple w) bb_tuple (by decide) rfl rfl rfl rfl rfl) ((nf.on hk4 ⟨rfl, rfl, rfl⟩).mono' fun g u hg eu => ?_)) fun v h5 tk5 hk5 hv => ?_)
    · cases eu
      exact ⟨fa, vs, rfl, ((hl'.st hk4).st hg).isList, hfin ▸ ha.tl tstab_p (.of (stays_trans hk4 hg))⟩
    · exact k v h5 tk5 (stays_trans sth (stays_trans hk4 hk5)) hv
end Mine
end
section -- Q11
open PySem PySem.W PyProof.Rows PySem.Calls
set_option maxRecDepth 100000
set_option maxHeartbeats 400000
set_option linter.unusedVariables false
namespace Mine

/-- what a tree of questions answers under a written order -/
def kOk {α : Type} (lt : Nat → Nat → Bool) (n : Nat) (Q : α → Prop) : KasT α → Prop
  | .ret a => Q a
  | .ask i j k => i < n ∧ j < n ∧ kOk lt n Q (k (lt i j))
theorem kOk_mono {α : Type} {lt : Nat → Nat → Bool} {n : Nat} {Q R : α → Prop} (h : ∀ a, Q a → R a) : ∀ {t : KasT α}, kOk lt n Q t → kOk lt n R t
  | .ret a, q => h a q
  | .ask i j k, ⟨a, b, c⟩ => ⟨a, b, kOk_mono h c⟩
theorem kOk_bind {α β : Type} {lt : Nat → Nat → Bool} {n : Nat} {f : α → KasT β} {R : β → Prop} : ∀ {t : KasT α}, kOk lt n (fun a => kOk lt n R (f a)) t → kOk lt n R (t.bind f)
  | .ret a, q => q
  | .ask i j k, ⟨a, b, c⟩ => ⟨a, b, kOk_bind c⟩
theorem kOk_wp {α : Type} {lt : Nat → Nat → Bool} {n : Nat} {Q : α → Prop} {R : α → Shared → Prop} {s : Shared} {cmp : Nat → Nat → (Bool → Shared → Prop) → Shared → Prop}
    (hc : ∀ i j (C : Bool → Shared → Prop), i < n → j < n → C (lt i j) s → cmp i j C s) (hR : ∀ a, Q a → R a s) : ∀ {t : KasT α}, kOk lt n Q t → t.kasWp cmp R s
  | .ret a, q => hR a q
  | .ask i j k, ⟨a, b, c⟩ => hc i j _ a b (kOk_wp hc hR c)

section
variable {r : Nat → Int} {n : Nat}
/-- the rank at a place -/
def gk (r : Nat → Int) (p : Array Nat) (i : Nat) : Int := r (p.getD i 0)
def Srt (r : Nat → Int) (p : Array Nat) (k : Nat) : Prop := ∀ i j, i ≤ j → j < k → gk r p i ≤ gk r p j
def NInc (r : Nat → Int) (p : Array Nat) (k : Nat) : Prop := ∀ i j, i ≤ j → j < k → gk r p j ≤ gk r p i
def BP (n : Nat) (p : Array Nat) : Prop := p.Perm (List.range n).toArray
theorem BP.size {p : Array Nat} (h : BP n p) : p.size = n := by have := h.size_eq; simpa using this
theorem BP.lt {p : Array Nat} (h : BP n p) {i : Nat} (hi : i < n) : p.getD i 0 < n := by
  have hs := h.size
  have e : p.getD i 0 = p[i] := by simp [Array.getD, hs, hi]
  rw [e]
  have hm : p[i] ∈ (List.range n).toArray.toList := (Array.perm_iff_toList_perm.mp h).mem_iff.mp (by simp)
  simpa using hm
theorem gk_congr {p q : Array Nat} {i j : Nat} (h : p[i]? = q[j]?) : gk r p i = gk r q j := by
  unfold gk; rw [Array.getD_eq_getD_getElem?, Array.getD_eq_getD_getElem?, h]
theorem gk_rev {p : Array Nat} {i j : Nat} (hj : j ≤ p.size) (k : Nat) : gk r (kas_rev p i j) k = if i ≤ k ∧ k < j then gk r p (i + j - 1 - k) else gk r p k := by
  have e := getElem?_mirror_all (xs := p) (i := i) hj k
  by_cases h : i ≤ k ∧ k < j
  · rw [if_pos h] at e ⊢; exact gk_congr e
  · rw [if_neg h] at e ⊢; exact gk_congr e
theorem gk_bub {p : Array Nat} {src d : Nat} (hs : src < p.size) (hd : d ≤ src) (k : Nat) : gk r (bubble p src d) k = if k = src - d then gk r p src else if src - d < k ∧ k ≤ src then gk r p (k - 1) else gk r p k := by
  have e := getElem?_bubble hs d hd k
  by_cases h1 : k = src - d
  · rw [if_pos h1] at e ⊢; exact gk_congr e
  · rw [if_neg h1] at e ⊢
    by_cases h2 : src - d < k ∧ k ≤ src
    · rw [if_pos h2] at e ⊢; exact gk_congr e
    · rw [if_neg h2] at e ⊢; exact gk_congr e
theorem BP.rev {p : Array Nat} (h : BP n p) (i j : Nat) : BP n (kas_rev p i j) := (mirror_perm _ _ _ _).trans h
theorem BP.bub {p : Array Nat} (h : BP n p) (i j : Nat) : BP n (bubble p i j) := (bubble_perm _ _ _).trans h

def ltk (r : Nat → Int) (i j : Nat) : Bool := decide (r i < r j)
theorem ok_asc {p : Array Nat} (hp : BP n p) : ∀ (f m : Nat), 1 ≤ m → m + f ≤ n → Srt r p m → kOk (ltk r) n (fun q => m ≤ q ∧ q ≤ m + f ∧ Srt r p q ∧ (q = m + f ∨ gk r p q < gk r p (q - 1))) (kas_asc p f m)
  | 0, m, h1, h2, hs => ⟨Nat.le_refl _, Nat.le_refl _, hs, .inl rfl⟩
  | f + 1, m, h1, h2, hs => by
    refine ⟨hp.lt (by omega), hp.lt (by omega), ?_⟩
    dsimp only
    by_cases c : ltk r (p.getD m 0) (p.getD (m - 1) 0) = true
    · rw [if_pos c]
      exact ⟨Nat.le_refl _, by omega, hs, .inr (of_decide_eq_true c)⟩
    · rw [if_neg c]
      have hc : gk r p (m - 1) ≤ gk r p m := Int.not_lt.mp fun q => c (decide_eq_true q)
      refine kOk_mono (fun q ⟨a, b, c, d⟩ => ⟨by omega, by omega, c, d.imp (fun d => by omega) id⟩) (ok_asc hp f (m + 1) (by omega) (by omega) fun i j hij hj => ?_)
      · by_cases hjm : j < m
        · exact hs i j hij hjm
        · have : j = m := by omega
          subst this
          by_cases hi : i = j
          · subst hi; exact Int.le_refl _
          · exact Int.le_trans (hs i (j - 1) (by omega) (by omega)) hc

theorem ok_desc : ∀ (f : Nat) (p : Array Nat) (m q : Nat), BP n p → 1 ≤ m → m + f ≤ n → NInc r p m → q + 1 ≤ m → (∀ i, m - (q + 1) ≤ i → i < m → gk r p i = gk r p (m - 1)) →
    kOk (ltk r) n (fun (x : Array Nat × Nat × Nat) => BP n x.1 ∧ m ≤ x.2.1 ∧ x.2.1 ≤ m + f ∧ NInc r x.1 x.2.1 ∧ x.2.2 + 1 ≤ x.2.1 ∧ (∀ i, x.2.1 - (x.2.2 + 1) ≤ i → i < x.2.1 → gk r x.1 i = gk r x.1 (x.2.1 - 1))) (kas_desc f p m q)
  | 0, p, m, q, hp, h1, h2, hs, hq, he => ⟨hp, Nat.le_refl _, Nat.le_refl _, hs, hq, he⟩
  | f + 1, p, m, q, hp, h1, h2, hs, hq, he => by
    have hsz := hp.size
    refine ⟨hp.lt (by omega), hp.lt (by omega), ?_⟩
    dsimp only
    by_cases c : ltk r (p.getD m 0) (p.getD (m - 1) 0) = true
    · rw [if_pos c]
      have hc : gk r p m < gk r p (m - 1) := of_decide_eq_true c
      have step : ∀ p' : Array Nat, (∀ k, gk r p' k = gk r p k) → NInc r p' (m + 1) := fun p' hk i j hij hj => by
        rw [hk, hk]
        by_cases hjm : j < m
        · exact hs i j hij hjm
        · have : j = m := by omega
          subst this
          by_cases hi : i = j
          · subst hi; exact Int.le_refl _
          · have := hs i (j - 1) (by omega) (by omega); omega
      by_cases hq0 : q > 0
      · rw [if_pos hq0]
        refine kOk_mono (fun x ⟨a, b, c, d⟩ => ⟨a, by omega, by omega, d⟩) (ok_desc f _ (m + 1) 0 (hp.rev _ _) (by omega) (by omega) (step _ fun k => ?_) (by omega) fun i hi1 hi2 => by rw [show i = m + 1 - 1 by omega])
        rw [gk_rev (by omega)]
        split
        · next hk => rw [he _ (by omega) (by omega), he k hk.1 hk.2]
        · rfl
      · rw [if_neg hq0]
        exact kOk_mono (fun x ⟨a, b, c, d⟩ => ⟨a, by omega, by omega, d⟩) (ok_desc f _ (m + 1) 0 hp (by omega) (by omega) (step _ fun k => rfl) (by omega) fun i hi1 hi2 => by rw [show i = m + 1 - 1 by omega])
    · rw [if_neg c]
      have hc : gk r p (m - 1) ≤ gk r p m := Int.not_lt.mp fun q => c (decide_eq_true q)
      refine ⟨hp.lt (by omega), hp.lt (by omega), ?_⟩
      dsimp only
      by_cases c2 : ltk r (p.getD (m - 1) 0) (p.getD m 0) = true
      · rw [if_pos c2]
        exact ⟨hp, Nat.le_refl _, Nat.le_add_right _ _, hs, hq, he⟩
      · rw [if_neg c2]
        have hc2 : gk r p m ≤ gk r p (m - 1) := Int.not_lt.mp fun q => c2 (decide_eq_true q)
        have heq : gk r p m = gk r p (m - 1) := Int.le_antisymm hc2 hc
        refine kOk_mono (fun x ⟨a, b, c, d⟩ => ⟨a, by omega, by omega, d⟩) (ok_desc f p (m + 1) (q + 1) hp (by omega) (by omega) (fun i j hij hj => ?_) (by omega) fun i hi1 hi2 => ?_)
        · by_cases hjm : j < m
          · exact hs i j hij hjm
          · have : j = m := by omega
            subst this
            by_cases hi : i = j
            · subst hi; exact Int.le_refl _
            · have := hs i (j - 1) (by omega) (by omega); omega
        · rw [show m + 1 - 1 = m by omega]
          by_cases hi : i = m
          · subst hi; rfl
          · rw [heq]; exact he i (by omega) (by omega)

abbrev CntQ (r : Nat → Int) (n nrem : Nat) (x : Nat × Array Nat) : Prop := BP n x.2 ∧ 1 ≤ x.1 ∧ x.1 ≤ nrem ∧ Srt r x.2 x.1
theorem ok_tail3 {p : Array Nat} {m nrem : Nat} (hp : BP n p) (h1 : 1 ≤ m) (h2 : m ≤ nrem) (h3 : nrem ≤ n) (hs : NInc r p m) : kOk (ltk r) n (CntQ r n nrem) (kas_tail3 m nrem p) := by
  have hsz := hp.size
  refine kOk_bind (kOk_mono (fun q ⟨a, b, c, _⟩ => ⟨hp.rev _ _, by omega, by omega, c⟩) (ok_asc (hp.rev 0 m) (nrem - m) m h1 (by omega) fun i j hij hj => ?_))
  rw [gk_rev (by omega), gk_rev (by omega), if_pos (by omega), if_pos (by omega)]
  exact hs _ _ (by omega) (by omega)
theorem ok_descPart {p : Array Nat} {m nrem : Nat} (hp : BP n p) (h2 : m + 1 ≤ nrem) (h3 : nrem ≤ n) (hs : NInc r p (m + 1)) : kOk (ltk r) n (CntQ r n nrem) (kas_descPart m nrem p) := by
  refine kOk_bind (kOk_mono ?_ (ok_desc (nrem - (m + 1)) p (m + 1) 0 hp (by omega) (by omega) hs (by omega) fun i a b => by rw [show i = m + 1 - 1 by omega]))
  rintro ⟨p', m', q'⟩ ⟨a, b, c, d, e, f⟩
  dsimp only at a b c d e f ⊢
  by_cases hq : q' > 0
  · rw [if_pos hq]
    refine ok_tail3 (a.rev _ _) (by omega) (by omega) h3 fun i j hij hj => ?_
    have key : ∀ k, gk r (kas_rev p' (m' - (q' + 1)) m') k = gk r p' k := fun k => by
      rw [gk_rev (by rw [a.size]; omega)]
      split
      · next hk => rw [f _ (by omega) (by omega), f k hk.1 hk.2]
      · rfl
    rw [key, key]; exact d i j hij hj
  · rw [if_neg hq]
    exact ok_tail3 a (by omega) (by omega) h3 d
theorem ok_count {p : Array Nat} {nrem : Nat} (hp : BP n p) (h1 : 1 ≤ nrem) (h3 : nrem ≤ n) : kOk (ltk r) n (CntQ r n nrem) (kas_count nrem p) := by
  have hsz := hp.size
  refine kOk_bind (kOk_mono ?_ (ok_asc hp (nrem - 1) 1 (Nat.le_refl _) (by omega) fun i j hij hj => by rw [show i = j by omega]; exact Int.le_refl _))
  rintro m ⟨a, b, c, d⟩
  by_cases hm : (m == nrem) = true
  · rw [if_pos hm]
    exact ⟨hp, a, by simp at hm; omega, c⟩
  · rw [if_neg hm]
    have hne : m ≠ nrem := by simpa using hm
    have hlt : gk r p m < gk r p (m - 1) := d.resolve_left (by omega)
    by_cases h2 : m > 1
    · rw [if_pos h2]
      refine ⟨hp.lt (by omega), hp.lt (by omega), ?_⟩
      dsimp only
      by_cases c2 : ltk r (p.getD 0 0) (p.getD (m - 1) 0) = true
      · rw [if_pos c2]
        exact ⟨hp, a, by omega, c⟩
      · rw [if_neg c2]
        have hc2 : gk r p (m - 1) ≤ gk r p 0 := Int.not_lt.mp fun q => c2 (decide_eq_true q)
        have hall : ∀ k, k < m → gk r p k = gk r p (m - 1) := fun k hk => by
          have a1 := c 0 k (by omega) hk
          have a2 := c k (m - 1) (by omega) (by omega)
          omega
        refine ok_descPart (hp.rev _ _) (by omega) h3 fun i j hij hj => ?_
        have key : ∀ k, gk r (kas_rev p 0 m) k = gk r p k := fun k => by
          rw [gk_rev (by omega)]
          split
          · next hk => rw [hall _ (by omega), hall k hk.2]
          · rfl
        rw [key, key]
        by_cases hjm : j < m
        · rw [hall i (by omega), hall j hjm]; exact Int.le_refl _
        · have : j = m := by omega
          subst this
          by_cases hi : i = j
          · subst hi; exact Int.le_refl _
          · rw [hall i (by omega)]; omega
    · rw [if_neg h2]
      have : m = 1 := by omega
      subst this
      refine ok_descPart hp (by omega) h3 fun i j hij hj => ?_
      by_cases hi : i = j
      · subst hi; exact Int.le_refl _
      · have hi0 : i = 0 := by omega
        have hj1 : j = 1 := by omega
        subst hi0 hj1
        exact Int.le_of_lt hlt
theorem ok_place {p : Array Nat} {k : Nat} (hp : BP n p) (hk : k < n) (hs : Srt r p k) : ∀ (f l q : Nat), l ≤ q → q ≤ k → q - l ≤ f → (∀ i, i < l → gk r p i ≤ gk r p k) → (∀ i, q ≤ i → i < k → gk r p k < gk r p i) →
    kOk (ltk r) n (fun x => x ≤ k ∧ (∀ i, i < x → gk r p i ≤ gk r p k) ∧ (∀ i, x ≤ i → i < k → gk r p k < gk r p i)) (kas_place p k f l q)
  | 0, l, q, h1, h2, h3, h4, h5 => ⟨by omega, h4, fun i a b => h5 i (by omega) b⟩
  | f + 1, l, q, h1, h2, h3, h4, h5 => by
    unfold kas_place
    by_cases hlq : l ≥ q
    · rw [if_pos hlq]
      exact ⟨by omega, h4, fun i a b => h5 i (by omega) b⟩
    · rw [if_neg hlq]
      refine ⟨hp.lt hk, hp.lt (by omega), ?_⟩
      dsimp only
      by_cases c : ltk r (p.getD k 0) (p.getD ((l + q) / 2) 0) = true
      · rw [if_pos c]
        have hc : gk r p k < gk r p ((l + q) / 2) := of_decide_eq_true c
        refine ok_place hp hk hs f l ((l + q) / 2) (by omega) (by omega) (by omega) h4 fun i a b => ?_
        have := hs ((l + q) / 2) i a b; omega
      · rw [if_neg c]
        have hc : gk r p ((l + q) / 2) ≤ gk r p k := Int.not_lt.mp fun q => c (decide_eq_true q)
        refine ok_place hp hk hs f ((l + q) / 2 + 1) q (by omega) (by omega) (by omega) (fun i a => ?_) h5
        have := hs i ((l + q) / 2) (by omega) (by omega); omega
theorem ok_bin : ∀ (f : Nat) (p : Array Nat) (k : Nat), BP n p → k + f = n → Srt r p k → kOk (ltk r) n (fun p' => BP n p' ∧ Srt r p' n) (kas_bin f p k)
  | 0, p, k, hp, h, hs => by
    have : k = n := by omega
    subst this; exact ⟨hp, hs⟩
  | f + 1, p, k, hp, h, hs => by
    have hsz := hp.size
    refine kOk_bind (kOk_mono ?_ (ok_place hp (by omega) hs k 0 k (by omega) (Nat.le_refl _) (by omega) (fun i hi => by omega) fun i a b => by omega))
    rintro l ⟨hlk, hlo, hhi⟩
    refine ok_bin f _ (k + 1) (hp.bub _ _) (by omega) fun i j hij hj => ?_
    rw [gk_bub (by omega) (by omega), gk_bub (by omega) (by omega), show k - (k - l) = l by omega]
    repeat' split
    all_goals first
      | (exfalso; omega)
      | exact Int.le_refl _
      | exact hlo _ (by omega)
      | exact Int.le_of_lt (hhi _ (by omega) (by omega))
      | exact hs _ _ (by omega) (by omega)
theorem ok_sort (r : Nat → Int) (n : Nat) (hn : 1 ≤ n) : kOk (ltk r) n (fun p => BP n p ∧ Srt r p n) (kas_sort n) := by
  refine kOk_bind (kOk_mono ?_ (ok_count (n := n) (nrem := n) (Array.Perm.refl _) hn (Nat.le_refl _)))
  rintro ⟨m, p⟩ ⟨a, b, c, d⟩
  dsimp only at a b c d ⊢
  by_cases h : m < n
  · rw [if_pos h]
    exact ok_bin _ _ _ a (by omega) (by rw [show max m 1 = m by omega]; exact d)
  · rw [if_neg h]
    exact ⟨a, by rw [show n = m by omega]; exact d⟩
end
end Mine
end
section -- Q12
open PySem PySem.W PyProof.Rows PySem.Calls
set_option maxRecDepth 100000
set_option maxHeartbeats 400000
set_option linter.unusedVariables false
namespace Mine

section
variable {prog : Program} {w : World} {A : Around} {E : Value → Shared → Prop} {s : Shared}
/-- the sort's runs on these keys -/
def Sorts (prog : Program) (w : World) (A : Around) (vs : List Value) (g : Heap) (P : List Value → Prop) : Prop := ∃ κ : SortKind, ∀ s : Shared, g.StaysIn s.heap →
  wpAny (model prog w) A (keyKind' vs.toArray) (fun k s' => k = κ ∧ s' = s) (fun _ _ => False) s ∧
  wpAny (model prog w) A ((sortRuns').run (SortSt.mk' κ (vs.toArray.zip vs.toArray) #[] 7 none)) (fun r s' => s' = s ∧ ∃ out, (arrOf r.2).map (·.2) = List.toArray out ∧ failedOf r.2 = none ∧ P out) (fun _ _ => False) s

theorem my_list_sort {a : Addr} {vs : List Value} {n : Nat} {g : Heap} {C : List Value → Prop} {P : Fin → Shared → Prop} (ho : s.heap.get? a = some (seqObj "list" vs.toArray n)) (hsz : vs.length ≤ 1000) (hg : g.StaysIn s.heap) (hga : g.get? a = none)
    (hlen : ∀ out, C out → out.length = vs.length) (h1 : vs.length < 2 → C vs) (h2 : 2 ≤ vs.length → Sorts prog w A vs g C)
    (h : ∀ out, C out → P (.done (.ret .none)) { s with heap := sortedHeap s.heap a vs (List.toArray out) }) :
    wpAny (model prog w) A (Builtin.«list.sort» ⟨[.ref a], []⟩) P E s := by
  rw [list_sort_plain]
  have ha : a < s.heap.objs.size := Heap.lt_size ho
  refine wpAny_bind (listItems_at ho rfl ?_)
  refine wpAny_bind (listUpdate_at ho rfl ?_ (by rw [List.size_toArray, sizeLine_eq]; omega) (Nat.zero_le _))
  obtain ⟨e1, ho1⟩ : ∃ e1, (s.heap.update a (Obj.mapSeq fun _ => (#[] : Array Value))).get? a = some (seqObj "list" #[] e1) := ⟨_, get?_update_seq ho (fun _ => #[])⟩
  refine wpAny_bind (seqEpoch_at ho1 rfl ?_)
  refine wpAny_bind (wpAny_newTuple ?_ (by show vs.length ≤ _; rw [sizeLine_eq]; omega))
  refine wpAny_bind (wpAny_newList ?_ (Nat.zero_le _))
  refine wpAny_holding ?_
  have ho6 : (((s.heap.update a (Obj.mapSeq fun _ => (#[] : Array Value))).push (seqObj "tuple" vs.toArray 0)).push (seqObj "list" #[] 0)).get? a = some (seqObj "list" #[] e1) := Heap.get?_push_of_some _ (Heap.get?_push_of_some _ ho1)
  have hg6 : g.StaysIn (((s.heap.update a (Obj.mapSeq fun _ => (#[] : Array Value))).push (seqObj "tuple" vs.toArray 0)).push (seqObj "list" #[] 0)) := fun b o e => by
    have hne : b ≠ a := fun q => by rw [q, hga] at e; cases e
    refine Heap.get?_push_of_some _ (Heap.get?_push_of_some _ ?_)
    rw [Heap.get?_update_ne _ _ _ _ hne]; exact hg _ _ e
  show wpAny (model prog w) A _ P E { s with heap := ((s.heap.update a (Obj.mapSeq fun _ => (#[] : Array Value))).push (seqObj "tuple" vs.toArray 0)).push (seqObj "list" #[] 0) }
  dsimp only
  have hn : vs.toArray.size = vs.length := by simp
  have fin : ∀ (arr : Array Value) out, arr = List.toArray out → C out → wpAny (model prog w) A (Builtin.List.listUpdate (.ref a) fun _ => arr) (fun _ s' => P (.done (.ret .none)) s') E { s with heap := ((s.heap.update a (Obj.mapSeq fun _ => (#[] : Array Value))).push (seqObj "tuple" vs.toArray 0)).push (seqObj "list" #[] 0) } := by
    intro arr out e hc
    subst e
    refine listUpdate_at ho6 rfl (h out hc) (Nat.zero_le _) ?_
    rw [List.size_toArray, hlen out hc, sizeLine_eq]; omega
  by_cases h0 : vs.toArray.size < 2
  · rw [if_pos h0, if_pos h0]
    refine wpAny_bind (wpAny_pure ?_)
    rw [StateT.run_pure]
    refine wpAny_bind (wpAny_pure ?_)
    dsimp only
    refine wpAny_bind (seqEpoch_at ho6 rfl ?_)
    refine wpAny_bind (wpAny_mono (fin _ vs ?_ (h1 (by omega))) (fun _ s' hp => ?_) fun _ _ x => x)
    · show (vs.toArray.zip vs.toArray).map (·.2) = _
      apply Array.toList_inj.mp
      simp [List.map_snd_zip]
    · simp only [bne_self_eq_false, Bool.false_eq_true, if_false]
      exact wpAny_pure hp
  · rw [if_neg h0, if_neg h0]
    obtain ⟨κ, hs⟩ := h2 (by omega)
    obtain ⟨k1, k2⟩ := hs { s with heap := ((s.heap.update a (Obj.mapSeq fun _ => (#[] : Array Value))).push (seqObj "tuple" vs.toArray 0)).push (seqObj "list" #[] 0) } hg6
    refine wpAny_bind (wpAny_mono k1 ?_ fun _ _ x => x.elim)
    rintro k s' ⟨rfl, rfl⟩
    refine wpAny_bind (wpAny_mono k2 ?_ fun _ _ x => x.elim)
    rintro ⟨⟨⟩, st⟩ s' ⟨rfl, out, e, hf, hc⟩
    dsimp only at e hf ⊢
    refine wpAny_bind (seqEpoch_at ho6 rfl ?_)
    refine wpAny_bind (wpAny_mono (fin _ out e hc) (fun _ s' hp => ?_) fun _ _ x => x)
    rw [hf]
    simp only [bne_self_eq_false, Bool.false_eq_true, if_false]
    exact wpAny_pure hp

/-- a list or a tuple, as a sequence -/
def IsQ (h : Heap) (a : Addr) (vs : List Value) : Prop := ∃ o T n, (T = "list" ∨ T = "tuple") ∧ h.get? a = some o ∧ o.cls = .type T ∧ o.data = .seq vs.toArray n
theorem call_sorted {l : Addr} {vs : List Value} {g : Heap} {C : List Value → Prop} {Q : Value → Shared → Prop} (hl : IsQ s.heap l vs) (hsz : vs.length ≤ 1000) (hg : g.StaysIn s.heap)
    (hlen : ∀ out, C out → out.length = vs.length) (h1 : vs.length < 2 → C vs) (h2 : 2 ≤ vs.length → Sorts prog w A.in1.in1 vs g C)
    (h : ∀ a out h', C out → s.heap.StaysIn h' → LS h' a out → s.heap.get? a = none → Q (.ref a) { s with heap := h' }) :
    wpAny (model prog w) A (call (.builtin "sorted") [.ref l]) Q E s := by
  obtain ⟨o, T, n, hT, ho, hc, hd⟩ := hl
  refine Calls.call_function_entry kind_sorted plain_sorted entry_sorted (args_sorted1 _) ?_
  unfold Builtin.«sorted»
  refine wpAny_bind (m := checkCount "sorted" 1 1 _) (wpAny_pure ?_)
  refine wpAny_bind (wpAny_collect_seq l hT ho hc hd (fun h1' hk1 => ?_) (by rw [List.size_toArray, sizeLine_eq]; omega))
  rw [List.toList_toArray]
  refine wpAny_bind (wpAny_newList ?_ (by rw [sizeLine_eq]; omega))
  have hoL : (h1'.push (seqObj "list" vs.toArray 0)).get? h1'.objs.size = some (seqObj "list" vs.toArray 0) := Heap.get?_push_size _ rfl
  have keep : s.heap.StaysIn (h1'.push (seqObj "list" vs.toArray 0)) := fun b o q => Heap.get?_push_of_some _ (hk1 b o q)
  show wpAny _ _ _ _ _ { s with heap := h1'.push (seqObj "list" vs.toArray 0) }
  have hg1 : g.StaysIn h1' := stays_trans hg hk1
  have hga : g.get? h1'.objs.size = none := by
    cases e : g.get? h1'.objs.size with
    | none => rfl
    | some o => exact absurd (Heap.lt_size (hg1 _ _ e)) (Nat.lt_irrefl _)
  refine wpAny_bind (wpAny_holding (wpAny_call_entry slot_list_sort ⟨_, hoL, rfl⟩ entry_list_sort (my_list_sort (C := C) hoL hsz (stays_trans hg keep) hga hlen h1 h2 fun out hc => ⟨_, rfl, ?_⟩) (args_list_sort _)))
  obtain ⟨e, he⟩ := sortedHeap_at (vs := vs) (out := List.toArray out) hoL
  refine wpAny_pure ⟨_, rfl, h _ out _ hc (fun b o e => ?_) ⟨e, he⟩ ?_⟩
  · have hb : b < h1'.objs.size := Heap.lt_size (hk1 _ _ e)
    rw [sortedHeap_old (Nat.ne_of_lt hb) (by rw [size_push']; exact Nat.lt_succ_of_lt hb)]
    exact keep _ _ e
  · cases e : s.heap.get? h1'.objs.size with
    | none => rfl
    | some o => exact absurd (Heap.lt_size (hk1 _ _ e)) (Nat.lt_irrefl _)
/-- a fresh list of such things -/
def IsN {α : Type} (g : Heap) (R : α → Heap → Value → Prop) (xs : List α) (h : Heap) (v : Value) : Prop := ∃ a vs, v = .ref a ∧ LS h a vs ∧ All2 R h xs vs ∧ g.get? a = none
theorem IsN.isL {α : Type} {g : Heap} {R : α → Heap → Value → Prop} {xs : List α} {h : Heap} {v : Value} (x : IsN g R xs h v) : IsL R xs h v := let ⟨a, vs, e, l, r, _⟩ := x; ⟨a, vs, e, l.isList, r⟩
theorem IsN.base {α : Type} {g g' : Heap} {R : α → Heap → Value → Prop} {xs : List α} {h : Heap} {v : Value} (x : IsN g R xs h v) (k : g'.StaysIn g) : IsN g' R xs h v := by
  obtain ⟨a, vs, e, l, r, n⟩ := x
  refine ⟨a, vs, e, l, r, ?_⟩
  cases q : g'.get? a with
  | none => rfl
  | some o => rw [k _ _ q] at n; cases n
theorem IsN.st {α : Type} {g : Heap} {R : α → Heap → Value → Prop} {xs : List α} {h h' : Heap} {v : Value} (st : TStab R) (x : IsN g R xs h v) (k : h.StaysIn h') : IsN g R xs h' v := let ⟨a, vs, e, l, r, n⟩ := x; ⟨a, vs, e, l.st k, r.tl st (.of k), n⟩
theorem stab_n {α : Type} {g : Heap} {R : α → Heap → Value → Prop} (st : TStab R) (xs : List α) : Stab (IsN g R xs) := fun _ _ _ k x => x.st st k
end

/-- the order of the pairs -/
def lle (p q : Int × Int) : Prop := p.1 < q.1 ∨ (p.1 = q.1 ∧ p.2 ≤ q.2)
def rkp (M : Int) (p : Int × Int) : Int := p.1 * (2 * M + 1) + p.2
theorem rkp_lt {M : Int} {p q : Int × Int} (hM : 0 ≤ M) (hp : -M ≤ p.2 ∧ p.2 ≤ M) (hq : -M ≤ q.2 ∧ q.2 ≤ M) : (rkp M p < rkp M q) ↔ (p.1 < q.1 ∨ (p.1 = q.1 ∧ p.2 < q.2)) := by
  unfold rkp
  rcases Int.lt_trichotomy p.1 q.1 with h | h | h
  · have h1 : (p.1 + 1) * (2 * M + 1) ≤ q.1 * (2 * M + 1) := Int.mul_le_mul_of_nonneg_right (by omega) (by omega)
    rw [Int.add_mul] at h1
    constructor
    · intro _; exact .inl h
    · intro _; omega
  · rw [h]
    constructor
    · intro _; exact .inr ⟨rfl, by omega⟩
    · intro _; omega
  · have h1 : (q.1 + 1) * (2 * M + 1) ≤ p.1 * (2 * M + 1) := Int.mul_le_mul_of_nonneg_right (by omega) (by omega)
    rw [Int.add_mul] at h1
    constructor
    · intro _; omega
    · intro _; omega
theorem exists_bound : ∀ (xs : Dm), ∃ M : Int, 0 ≤ M ∧ ∀ p ∈ xs, -M ≤ p.2 ∧ p.2 ≤ M
  | [] => ⟨0, Int.le_refl _, by simp⟩
  | p :: xs => by
    obtain ⟨M, h0, hM⟩ := exists_bound xs
    refine ⟨max M (p.2.natAbs : Int), by omega, fun q hq => ?_⟩
    rcases List.mem_cons.mp hq with rfl | hq
    · omega
    · have := hM q hq; omega

section
variable {prog : Program} {w : World} {A : Around} {E : Value → Shared → Prop} {s : Shared}
theorem katTups {g : Heap} : ∀ {xs : Dm} {vs : List Value}, All2 IsP g xs vs → ∃ fs, KatTups g vs fs ∧ fs.length = vs.length ∧ ∀ f ∈ fs, ∃ a t, f = .int a t
  | [], [], _ => ⟨[], .nil, rfl, by simp⟩
  | x :: xs, v :: vs, ⟨⟨a, t1, t2, e, o, ho, hc, n, hd⟩, r⟩ => by
    obtain ⟨fs, k, hl, hf⟩ := katTups r
    refine ⟨.int x.1 t1 :: fs, ?_, by simp [hl], fun f h => ?_⟩
    · rw [e]; exact .cons ho hc hd rfl k
    · rcases List.mem_cons.mp h with rfl | h
      · exact ⟨_, _, rfl⟩
      · exact hf f h
  | [], _ :: _, x => x.elim
  | _ :: _, [], x => x.elim
theorem KatTups.st {g h : Heap} (hs : g.StaysIn h) : ∀ {vs fs : List Value}, KatTups g vs fs → KatTups h vs fs
  | [], [], _ => trivial
  | _ :: _, _ :: _, ⟨⟨a, o, xs, n, e, ho, r⟩, k⟩ => ⟨⟨a, o, xs, n, e, hs _ _ ho, r⟩, KatTups.st hs k⟩
  | [], _ :: _, x => x.elim
  | _ :: _, [], x => x.elim
theorem All2.at {g : Heap} {xs : Dm} {vs : List Value} (h : All2 IsP g xs vs) {i : Nat} (hi : i < xs.length) : IsP (xs.getD i (0, 0)) g (vs.getD i .none) := by
  obtain ⟨v, hv, r⟩ := h.get (show xs[i]? = some xs[i] by simp [hi])
  have e1 : xs.getD i (0, 0) = xs[i] := by simp [hi]
  have e2 : vs.getD i .none = v := by rw [List.getD_eq_getElem?_getD, hv]; rfl
  rw [e1, e2]; exact r
theorem All2.map_at {α : Type} {RR : α → Heap → Value → Prop} {g : Heap} {f1 : Nat → α} {f2 : Nat → Value} : ∀ (l : List Nat), (∀ i ∈ l, RR (f1 i) g (f2 i)) → All2 RR g (l.map f1) (l.map f2)
  | [], _ => trivial
  | i :: l, h => ⟨h i (by simp), All2.map_at l fun j hj => h j (by simp [hj])⟩
theorem map_range_getD {α : Type} (xs : List α) (d : α) : (List.range xs.length).map (fun i => xs.getD i d) = xs := by
  apply List.ext_getElem?
  intro i
  by_cases h : i < xs.length
  · simp [h]
  · simp [h]

theorem lt_pairs {x y : Int × Int} {g : Heap} {v u : Value} {C : Bool → Shared → Prop} (hx : IsP x s.heap v) (hy : IsP y s.heap u) (h : C (decide (x.1 < y.1 ∨ (x.1 = y.1 ∧ x.2 < y.2))) s) :
    wpAny (model prog w) A (keyLt' (tuples' true) v u) C E s := by
  obtain ⟨a, t1, t2, rfl, o, ho, hc, n, hd⟩ := hx
  obtain ⟨b, u1, u2, rfl, o', ho', hc', n', hd'⟩ := hy
  refine kat_lt ho hd ho' hd' ?_
  refine kat_cons (wpAny_eqBool_int ?_)
  by_cases h1 : x.1 = y.1
  · rw [show (x.1 == y.1) = true by simpa using h1]
    refine kat_yes (kat_cons (wpAny_eqBool_int ?_))
    by_cases h2 : x.2 = y.2
    · rw [show (x.2 == y.2) = true by simpa using h2]
      refine kat_yes (kat_nil ?_)
      have e : decide (x.1 < y.1 ∨ (x.1 = y.1 ∧ x.2 < y.2)) = false := by simp; omega
      rw [e] at h; exact h
    · rw [show (x.2 == y.2) = false by simpa using h2]
      refine kat_no ?_
      refine kat_one _ _ (PyProof.Rows.lt_int ?_)
      have e : decide (x.1 < y.1 ∨ (x.1 = y.1 ∧ x.2 < y.2)) = decide (x.2 < y.2) := by
        rw [decide_eq_decide]; omega
      rw [e] at h; exact h
  · rw [show (x.1 == y.1) = false by simpa using h1]
    refine kat_no ?_
    refine oneLt_int ?_
    have e : decide (x.1 < y.1 ∨ (x.1 = y.1 ∧ x.2 < y.2)) = decide (x.1 < y.1) := by
      rw [decide_eq_decide]; omega
    rw [e] at h; exact h

abbrev SrtD (xs : Dm) (g : Heap) (out : List Value) : Prop := ∃ ys : Dm, All2 IsP g ys out ∧ ys.Perm xs ∧ ys.Pairwise lle
theorem sorts_pairs {xs : Dm} {vs : List Value} {g : Heap} (h : All2 IsP g xs vs) (h2 : 2 ≤ vs.length) (h64 : vs.length < 64) : Sorts prog w A vs g (SrtD xs g) := by
  obtain ⟨fs, kt, hfl, hf⟩ := katTups h
  obtain ⟨M, hM, hb⟩ := exists_bound xs
  have hlen : vs.length = xs.length := h.len
  refine ⟨tuples' (Value.type "int" != Value.type "tuple"), fun s hs => ⟨?_, ?_⟩⟩
  · exact kat_kind (KatTups.st hs kt) (by rw [hfl]; omega) (fun v hv => by obtain ⟨a, t, rfl⟩ := hf v hv; exact Looks.of_pure rfl) rfl ⟨rfl, rfl⟩
  · have ht : (Value.type "int" != Value.type "tuple") = true := by rfl
    rw [ht]
    have bnd : ∀ i, i < vs.length → -M ≤ (xs.getD i (0, 0)).2 ∧ (xs.getD i (0, 0)).2 ≤ M := fun i hi => by
      have e1 : xs.getD i (0, 0) = xs[i]'(by omega) := by simp [show i < xs.length by omega]
      rw [e1]; exact hb _ (List.getElem_mem _)
    refine kat_run (Q := fun st s' => s' = s ∧ ∃ out, (arrOf st).map (·.2) = List.toArray out ∧ failedOf st = none ∧ SrtD xs g out) (G := fun p s' => s' = s ∧ BP vs.length p ∧ Srt (fun i => rkp M (xs.getD i (0, 0))) p vs.length) rfl h2 h64 ?_ ?_
    · rintro p st s' hp har hfl ⟨rfl, hbp, hsr⟩
      refine ⟨rfl, _, kat_snds rfl har, hfl, p.toList.map (fun i => xs.getD i (0, 0)), ?_, ?_, ?_⟩
      · refine All2.map_at _ fun i hi => h.at ?_
        have : i ∈ (List.range vs.length) := (Array.perm_iff_toList_perm.mp hbp).mem_iff.mp hi
        have := List.mem_range.mp this; omega
      · have hp2 := (Array.perm_iff_toList_perm.mp hbp).map (fun i => xs.getD i (0, 0))
        rw [List.toList_toArray, hlen, map_range_getD] at hp2
        exact hp2
      · rw [List.pairwise_iff_getElem]
        intro i j hi hj hij
        have hj' : j < vs.length := by simpa [hbp.size] using hj
        have hi' : i < vs.length := by omega
        have e := hsr i j (by omega) hj'
        unfold gk at e
        have ei : p.toList[i]'(by simpa using hi) = p.getD i 0 := by simp [Array.getD, hbp.size, hi']
        have ej : p.toList[j]'(by simpa using hj) = p.getD j 0 := by simp [Array.getD, hbp.size, hj']
        rw [List.getElem_map, List.getElem_map, ei, ej]
        have c := rkp_lt (p := xs.getD (p.getD j 0) (0, 0)) (q := xs.getD (p.getD i 0) (0, 0)) hM (bnd _ (hbp.lt hj')) (bnd _ (hbp.lt hi'))
        unfold lle
        have hn := mt c.mpr (Int.not_lt.mpr e)
        omega
    · refine kOk_wp (lt := ltk (fun i => rkp M (xs.getD i (0, 0)))) (n := vs.length) (fun i j C hi hj hC => ?_) (fun p hp => ⟨rfl, hp⟩) (ok_sort _ _ (by omega))
      show wpAny _ _ (keyLt' (tuples' true) (vs.getD i .none) (vs.getD j .none)) C _ s
      have hP : ∀ k, k < vs.length → IsP (xs.getD k (0, 0)) s.heap (vs.getD k .none) := fun k hk => tstab_p _ _ _ _ (.of hs) (h.at (by omega))
      refine lt_pairs (g := g) (hP i hi) (hP j hj) ?_
      have e : ltk (fun i => rkp M (xs.getD i (0, 0))) i j = decide ((xs.getD i (0, 0)).1 < (xs.getD j (0, 0)).1 ∨ ((xs.getD i (0, 0)).1 = (xs.getD j (0, 0)).1 ∧ (xs.getD i (0, 0)).2 < (xs.getD j (0, 0)).2)) := by
        unfold ltk; rw [decide_eq_decide]; exact rkp_lt hM (bnd _ hi) (bnd _ hj)
      rw [e] at hC; exact hC

theorem isQ_list {g : Heap} {a : Addr} {vs : List Value} (h : g.IsList a vs.toArray) : IsQ g a vs := let ⟨o, ho, hc, n, hd⟩ := h; ⟨o, "list", n, .inl rfl, ho, hc, hd⟩
theorem isQ_tup {g : Heap} {a : Addr} {vs : List Value} (h : IsTup g a vs.toArray) : IsQ g a vs := let ⟨o, ho, hc, n, hd⟩ := h; ⟨o, "tuple", n, .inr rfl, ho, hc, hd⟩
def lleB (p q : Int × Int) : Bool := decide (p.1 < q.1 ∨ (p.1 = q.1 ∧ p.2 ≤ q.2))
def sortD (xs : Dm) : Dm := xs.mergeSort lleB
theorem sortD_eq {xs ys : Dm} (hp : ys.Perm xs) (h : ys.Pairwise lle) : ys = sortD xs := by
  refine List.Perm.eq_of_pairwise (le := lle) (fun a b _ _ h1 h2 => ?_) h ?_ (hp.trans (List.mergeSort_perm xs lleB).symm)
  · unfold lle at h1 h2
    exact Prod.ext (by omega) (by omega)
  · have := List.pairwise_mergeSort (le := lleB) (fun a b c h1 h2 => by unfold lleB at *; rw [decide_eq_true_eq] at *; omega) (fun a b => by unfold lleB; rw [Bool.or_eq_true, decide_eq_true_eq, decide_eq_true_eq]; omega) xs
    exact this.imp fun h => of_decide_eq_true h
theorem sortD_len (xs : Dm) : (sortD xs).length = xs.length := (List.mergeSort_perm xs lleB).length_eq
/-- sorted over pairs -/
theorem call_sortedP {l : Addr} {vs : List Value} {xs : Dm} {Q : Value → Shared → Prop} (hl : IsQ s.heap l vs) (h : All2 IsP s.heap xs vs) (h64 : xs.length < 64)
    (k : ∀ v h' tk, s.heap.StaysIn h' → IsN s.heap IsP (sortD xs) h' v → Q v { s with heap := h', toks := tk }) : wpAny (model prog w) A (call (.builtin "sorted") [.ref l]) Q E s := by
  have hlen : vs.length = xs.length := h.len
  refine call_sorted (C := SrtD xs s.heap) hl (by omega) (stays_refl _) (fun out ⟨ys, a, b, _⟩ => by rw [a.len, b.length_eq]; omega) (fun h1 => ⟨xs, h, .refl _, ?_⟩) (fun h2 => sorts_pairs h h2 (by omega)) fun a out h' ⟨ys, c1, c2, c3⟩ hs hLS hN => ?_
  · match xs, hlen ▸ h1 with
    | [], _ => exact .nil
    | [x], _ => simp
    | _ :: _ :: _, h => simp at h; omega
  · refine k _ h' s.toks hs ⟨a, out, rfl, hLS, ?_, hN⟩
    rw [← sortD_eq c2 c3]
    exact c1.tl tstab_p (.of hs)
end
end Mine
end
section -- Q13
open PySem PySem.W PyProof.Rows PySem.Calls
set_option maxRecDepth 100000
set_option maxHeartbeats 400000
set_option linter.unusedVariables false
namespace Mine

section
variable {n : Nat} {r : Nat → Int}
abbrev rg (n : Nat) : Array Nat := (List.range n).toArray
theorem rg_getD {m : Nat} (h : m < n) : (rg n).getD m 0 = m := by simp [Array.getD, h]
theorem kOk_desc (hr : ∀ m, 1 ≤ m → m < n → r m < r (m - 1)) : ∀ (f m : Nat), 1 ≤ m → m + f = n → kOk (ltk r) n (fun (x : Array Nat × Nat × Nat) => x = (rg n, n, 0)) (kas_desc f (rg n) m 0)
  | 0, m, h1, h2 => by show (rg n, m, 0) = (rg n, n, 0); rw [show m = n by omega]
  | f + 1, m, h1, h2 => by
    refine ⟨by rw [rg_getD (by omega)]; omega, by rw [rg_getD (by omega)]; omega, ?_⟩
    rw [rg_getD (by omega), rg_getD (by omega)]
    have c : ltk r m (m - 1) = true := decide_eq_true (hr m h1 (by omega))
    rw [c]
    dsimp only
    rw [if_pos rfl, if_neg (by omega)]
    exact kOk_desc hr f (m + 1) (by omega) (by omega)
theorem kOk_count (h2 : 2 ≤ n) (hr : ∀ m, 1 ≤ m → m < n → r m < r (m - 1)) : kOk (ltk r) n (fun x => x = (n, kas_rev (rg n) 0 n)) (kas_count n (rg n)) := by
  obtain ⟨f, rfl⟩ : ∃ f, n = f + 2 := ⟨n - 2, by omega⟩
  refine kOk_bind ?_
  show kOk _ _ _ (kas_asc _ (f + 1) 1)
  refine ⟨by rw [rg_getD (by omega)]; omega, by rw [rg_getD (by omega)]; omega, ?_⟩
  rw [rg_getD (by omega), rg_getD (by omega)]
  have c : ltk r 1 (1 - 1) = true := decide_eq_true (hr 1 (Nat.le_refl _) (by omega))
  rw [c]
  dsimp only
  rw [if_pos rfl]
  have hne : ¬ ((1 == f + 2) = true) := by simp
  unfold kOk
  rw [if_neg hne, if_neg (by omega)]
  refine kOk_bind (kOk_mono ?_ (kOk_desc hr (f + 2 - (1 + 1)) (1 + 1) (by omega) (by omega)))
  rintro _ rfl
  dsimp only
  rw [if_neg (by omega)]
  refine kOk_bind ?_
  rw [show f + 2 - (f + 2) = 0 by omega]
  exact rfl
end

section
variable {prog : Program} {w : World} {A : Around} {E : Value → Shared → Prop} {κ : SortKind} {it : Array Keyed}
theorem one_run {n : Nat} {Q : Unit → SortSt → Shared → Prop} {p : Array Nat} {s : Shared} (h2 : 2 ≤ n) (h128 : n < 128)
    (hG : ∀ st', arrOf st' = p.map (kas_item it) → failedOf st' = none → Q () st' s) (h : (kas_count n (rg n)).kasWp (kas_cmp prog w A κ it) (fun x s' => x = (n, p) ∧ s' = s) s) :
    kasC (model prog w) A E sortRuns' Q (kas_st κ it (rg n)) s := by
  obtain ⟨r, rfl⟩ : ∃ r, n = r + 2 := ⟨n - 2, by omega⟩
  have hrs : (rg (r + 2)).size = r + 2 := by simp
  rw [sortRuns'_eq]
  refine kasC_bind (kasC_get ?_)
  dsimp only
  have hsz : (arrOf (kas_st κ it (rg (r + 2)))).size = r + 2 := by
    show ((rg (r + 2)).map (kas_item it)).size = _
    rw [Array.size_map, hrs]
  have hmr : minRun' (r + 2) (r + 2) 0 ≤ r + 2 := by
    rw [minRun'_succ]
    split
    · omega
    · rw [minRun'_succ, if_pos (by omega)]; omega
  simp only [hsz]
  generalize minRun' (r + 2) (r + 2) 0 = mr at hmr
  refine kasC_bind (kasC_range ?_)
  show kasC _ _ _ (forIn (0 :: 1 :: List.range' 2 r) _ _) _ _ _
  refine kasC_cons ?_
  dsimp only
  rw [if_neg (by omega)]
  simp only [Nat.sub_zero, Nat.zero_add]
  refine kasC_bind (kas_count_ (by omega) (by rw [hrs]; exact Nat.le_refl _) (fun m p' s' hm1 hm2 hp hg => ?_) h)
  obtain ⟨e, rfl⟩ := hg
  obtain ⟨rfl, rfl⟩ := Prod.mk.inj e
  dsimp only
  rw [if_neg (by omega)]
  refine kasC_bind (kasC_get ?_)
  rw [show (pendingOf (kas_st κ it p')).back? = none from rfl]
  dsimp only
  refine kasC_bind (kasC_modify (kasC_pure ?_))
  show kasC _ _ _ (forIn (1 :: List.range' 2 r) _ _) _ _ _
  refine kasC_cons ?_
  dsimp only
  rw [if_pos (Nat.le_refl _)]
  refine kasC_pure ?_
  dsimp only
  refine kasC_bind (kasC_range ?_)
  show kasC _ _ _ (forIn (0 :: 1 :: List.range' 2 r) _ _) _ _ _
  refine kasC_cons ?_
  refine kasC_bind (kasC_get ?_)
  rw [if_pos (show (pendingOf (setPending (kas_st κ it p') ((pendingOf (kas_st κ it p')).push (0, r + 2, 0)))).size ≤ 1 from Nat.le_refl 1)]
  refine kasC_pure ?_
  dsimp only
  exact kasC_pure (hG _ rfl rfl)

/-- ints that fall: one run -/
theorem sorts_fall {xs : List Int} {vs : List Value} {g : Heap} (h : IntsAre vs xs) (h2 : 2 ≤ vs.length) (h128 : vs.length < 128) (hf : xs.Pairwise (· > ·)) : Sorts prog w A vs g (fun out => out = vs.reverse) := by
  have hlen : xs.length = vs.length := h.length.symm
  refine ⟨oneType', fun s hs => ⟨?_, ?_⟩⟩
  · obtain ⟨v₁, v₂, rest, rfl⟩ : ∃ v₁ v₂ rest, vs = v₁ :: v₂ :: rest := by
      match vs, h2 with
      | v₁ :: v₂ :: rest, _ => exact ⟨v₁, v₂, rest, rfl⟩
    rw [keyKind_ints h]
    exact wpAny_pure ⟨rfl, rfl⟩
  · have est : SortSt.mk' oneType' (vs.toArray.zip vs.toArray) #[] 7 none = kas_st oneType' (vs.toArray.zip vs.toArray) (rg vs.length) := by
      have e := kas_range (vs.toArray.zip vs.toArray)
      rw [show (vs.toArray.zip vs.toArray).size = vs.length by simp] at e
      show SortSt.mk' oneType' (vs.toArray.zip vs.toArray) #[] 7 none = SortSt.mk' oneType' ((rg vs.length).map (kas_item (vs.toArray.zip vs.toArray))) #[] 7 none
      rw [e]
    rw [est]
    refine one_run (p := kas_rev (rg vs.length) 0 vs.length) (Q := fun _ st s' => s' = s ∧ ∃ out, (arrOf st).map (·.2) = List.toArray out ∧ failedOf st = none ∧ out = vs.reverse) h2 h128 (fun st har hfl => ⟨rfl, _, kat_snds rfl har, hfl, ?_⟩) ?_
    · apply List.ext_getElem?
      intro k
      have hm := getElem?_mirror_all (xs := rg vs.length) (i := 0) (j := vs.length) (by simp) k
      have hm' : (kas_rev (rg vs.length) 0 vs.length).toList[k]? = if 0 ≤ k ∧ k < vs.length then (rg vs.length)[0 + vs.length - 1 - k]? else (rg vs.length)[k]? := by
        rw [← hm]; exact Array.getElem?_toList
      rw [List.getElem?_map, hm']
      by_cases hk : k < vs.length
      · rw [if_pos ⟨by omega, hk⟩, List.getElem?_reverse hk]
        simp [show vs.length - 1 - k < vs.length by omega]
      · rw [if_neg (by omega)]
        simp [hk]
    · refine kOk_wp (lt := ltk (fun i => xs.getD i 0)) (n := vs.length) (fun i j C hi hj hC => ?_) (fun p hp => ⟨hp, rfl⟩) (kOk_count h2 fun m h1 hm => ?_)
      · show kas_cmp prog w A oneType' (vs.toArray.zip vs.toArray) i j C s
        rw [← kat_ask_eq rfl]
        show wpAny _ _ (keyLt' oneType' (vs.getD i .none) (vs.getD j .none)) C _ s
        obtain ⟨ti, ei⟩ : ∃ t, vs.getD i .none = .int (xs.getD i 0) t := by
          obtain ⟨z, t, e1, e2⟩ := IntsAre.at h i vs[i] (by simp [hi])
          refine ⟨t, ?_⟩
          rw [List.getD_eq_getElem?_getD, List.getD_eq_getElem?_getD, e2, show vs[i]? = some vs[i] by simp [hi], e1]; rfl
        obtain ⟨tj, ej⟩ : ∃ t, vs.getD j .none = .int (xs.getD j 0) t := by
          obtain ⟨z, t, e1, e2⟩ := IntsAre.at h j vs[j] (by simp [hj])
          refine ⟨t, ?_⟩
          rw [List.getD_eq_getElem?_getD, List.getD_eq_getElem?_getD, e2, show vs[j]? = some vs[j] by simp [hj], e1]; rfl
        rw [ei, ej]
        exact kat_lt_int hC
      · have e1 : xs.getD m 0 = xs[m]'(by omega) := by simp [show m < xs.length by omega]
        have e2 : xs.getD (m - 1) 0 = xs[m - 1]'(by omega) := by simp [show m - 1 < xs.length by omega]
        rw [e1, e2]
        exact List.pairwise_iff_getElem.mp hf (m - 1) m (by omega) (by omega) (by omega)
/-- sorted over falling ints -/
theorem call_sortedF {s : Shared} {l : Addr} {vs : List Value} {xs : List Int} {Q : Value → Shared → Prop} (hl : IsQ s.heap l vs) (h : IntsAre vs xs) (h128 : vs.length < 128) (hf : xs.Pairwise (· > ·))
    (k : ∀ v h' tk, s.heap.StaysIn h' → IsN s.heap IsI xs.reverse h' v → Q v { s with heap := h', toks := tk }) : wpAny (model prog w) A (call (.builtin "sorted") [.ref l]) Q E s := by
  refine call_sorted (C := fun out => out = vs.reverse) hl (by omega) (stays_refl _) (fun out e => by rw [e, List.length_reverse]) (fun h1 => ?_) (fun h2 => sorts_fall h h2 h128 hf) fun a out h' e hs hLS hN => ?_
  · match vs, h1 with
    | [], _ => rfl
    | [x], _ => rfl
    | _ :: _ :: _, h => simp at h; omega
  · subst e
    exact k _ h' s.toks hs ⟨a, _, rfl, hLS, (ints_all2 h).rev, hN⟩
end
end Mine
end
section -- Q14
open PySem PySem.W PyProof.Rows PySem.Calls
set_option maxRecDepth 100000
set_option maxHeartbeats 400000
set_option linter.unusedVariables false
namespace Mine
theorem fill14 : (PySem.Challenge.rw_qd0006_01, Mine.hd.heap_39) = (PySem.Challenge.rw_qd0006_01, Mine.hd.heap_39) := by k_fill; rfl

section
variable {prog : Program} {w : World} {A : Around} {env : Env} {h₀ : Heap}
theorem Ev.sortT {xs : Dm} {func e : Expr} {pos : Pos} (hf : Ev prog w A env h₀ func (IsV (.builtin "sorted"))) (h1 : Ev prog w A env h₀ e (IsT IsP xs)) (h64 : xs.length < 64)
    (he : starEach [e] env = [(false, eval e env)] := by rfl) (hcall : eval (.Call func [e] [] pos) env = (do callWith pos (← eval func env) [] (backTo pos (starEach [e] env)) (backToKw pos (keywordEach [] env))) := by rfl) :
    Ev prog w A env h₀ (.Call func [e] [] pos) (IsN h₀ IsP (sortD xs)) := by
  refine hf.callB (.one h1 (stab_t tstab_p xs) he) (fun s vs Q E hs hr k => ?_) he rfl hcall
  obtain ⟨v, rfl, a, us, rfl, ht, hr⟩ := hr
  exact call_sortedP (isQ_tup ht) hr h64 fun v h' tk hk hv => k v h' tk hk (hv.base hs)
theorem Ev.sortL {xs : Dm} {func e : Expr} {pos : Pos} (hf : Ev prog w A env h₀ func (IsV (.builtin "sorted"))) (h1 : Ev prog w A env h₀ e (IsL IsP xs)) (h64 : xs.length < 64)
    (he : starEach [e] env = [(false, eval e env)] := by rfl) (hcall : eval (.Call func [e] [] pos) env = (do callWith pos (← eval func env) [] (backTo pos (starEach [e] env)) (backToKw pos (keywordEach [] env))) := by rfl) :
    Ev prog w A env h₀ (.Call func [e] [] pos) (IsN h₀ IsP (sortD xs)) := by
  refine hf.callB (.one h1 (stab_l tstab_p xs) he) (fun s vs Q E hs hr k => ?_) he rfl hcall
  obtain ⟨v, rfl, a, us, rfl, ht, hr⟩ := hr
  exact call_sortedP (isQ_list ht) hr h64 fun v h' tk hk hv => k v h' tk hk (hv.base hs)
theorem Ev.sortF {xs : List Int} {func e : Expr} {pos : Pos} (hf : Ev prog w A env h₀ func (IsV (.builtin "sorted"))) (h1 : Ev prog w A env h₀ e (IsL IsI xs)) (h64 : xs.length < 128) (hp : xs.Pairwise (· > ·))
    (he : starEach [e] env = [(false, eval e env)] := by rfl) (hcall : eval (.Call func [e] [] pos) env = (do callWith pos (← eval func env) [] (backTo pos (starEach [e] env)) (backToKw pos (keywordEach [] env))) := by rfl) :
    Ev prog w A env h₀ (.Call func [e] [] pos) (IsN h₀ IsI xs.reverse) := by
  refine hf.callB (.one h1 (stab_l tstab_i xs) he) (fun s vs Q E hs hr k => ?_) he rfl hcall
  obtain ⟨v, rfl, a, us, rfl, ht, hr⟩ := hr
  exact call_sortedF (isQ_list ht) (all2_ints hr) (by rw [hr.len]; exact h64) hp fun v h' tk hk hv => k v h' tk hk (hv.base hs)
/-- a fresh list, as the source of a loop -/
theorem src_new {α : Type} {R : α → Heap → Value → Prop} {xs : List α} {W : List Addr} {h : Heap} {v : Value} (hh : A.handled = none) (st : TStab R) (x : IsN h₀ R xs h v) (hW : ∀ a ∈ W, ∃ o, h₀.get? a = some o) : Src prog w A R xs h v ∧ ∀ a ∈ W, v ≠ .ref a := by
  refine ⟨src_list hh st x.isL, fun a ha e => ?_⟩
  obtain ⟨b, vs, e', _, _, n⟩ := x
  rw [e'] at e; cases e
  obtain ⟨o, ho⟩ := hW a ha
  rw [n] at ho; cases ho
/-- put_behind as a statement -/
theorem exec_put {mean : ExcName → Option Value} {mg mb : Str → Option Value} {s : Shared} {fa : Addr} {vs : List Value} {acc : Dm} {low high : Int} {fp cpos pos : Pos} {e1 e2 e3 : Expr} {Q : Flow → Shared → Prop} {E : Value → Shared → Prop}
    (c : Cx w mean mg mb s.heap) (r : Rm A 2) (hl : acc.length ≤ 1000000) (hf : LS s.heap fa vs) (ha : All2 IsP s.heap acc vs)
    (h1 : Ev pg w A env s.heap e1 (IsV (.ref fa))) (h2 : Ev pg w A env s.heap e2 (IsI low)) (h3 : Ev pg w A env s.heap e3 (IsI high))
    (k : ∀ h' tk vs', (∀ b o, b ≠ fa → s.heap.get? b = some o → h'.get? b = some o) → LS h' fa vs' → All2 IsP h' (putBehind acc low high) vs' → Q .next { s with heap := h', toks := tk })
    (hg : env.globals = mainGlobals) (hk : env.scope.kind = .function) (hlk : env.kindOf "put_behind" = some .globalImplicit) (hi : interactive env = false)
    (hs : starEach [e1, e2, e3] env = [(false, eval e1 env), (false, eval e2 env), (false, eval e3 env)])
    (hcall : eval (.Call (.Name "put_behind" fp) [e1, e2, e3] [] cpos) env = (do callWith cpos (← eval (.Name "put_behind" fp) env) [] (backTo cpos (starEach [e1, e2, e3] env)) (backToKw cpos (keywordEach [] env)))) :
    wpAny (model pg w) A (exec (.Expr (.Call (.Name "put_behind" fp) [e1, e2, e3] [] cpos) pos) env) Q E s := by
  have hs2 : starEach [e2, e3] env = [(false, eval e2 env), (false, eval e3 env)] := by
    have : starEach [e1, e2, e3] env = (starEach [e1, e2, e3] env).head?.toList ++ starEach [e2, e3] env := by cases e1 <;> rfl
    rw [hs] at this; simpa using this.symm
  have hs3 : starEach [e3] env = [(false, eval e3 env)] := by
    have : starEach [e2, e3] env = (starEach [e2, e3] env).head?.toList ++ starEach [e3] env := by cases e2 <;> rfl
    rw [hs2] at this; simpa using this.symm
  refine wpAny_Expr ?_ hi rfl
  refine Call_ (Ev.run (R := IsV (.ref 62)) (c.glob (by k_is) hg hk hlk rfl) fun v g1 tk1 hk1 hv => ?_) hcall
  cases hv
  obtain ⟨o, fd, ho, hdat⟩ : ∃ o fd, s.heap.get? 62 = some o ∧ o.data = .func fd := ⟨_, _, c.fn (by k_is), rfl⟩
  refine callWith_def hdat (args_cons (h1 _ _ E hk1 fun v g2 tk2 hk2 hv => ?_) (by rw [hs, hs2])) (by rw [hs, hs2])
  refine args_cons (h2 _ _ E (stays_trans hk1 hk2) fun v2 g3 tk3 hk3 hv2 => ?_) (by rw [hs2, hs3])
  refine args_cons (h3 _ _ E (stays_trans hk1 (stays_trans hk2 hk3)) fun v3 g4 tk4 hk4 hv3 => args_nil ?_) (by rw [hs3]; rfl)
  cases hv
  obtain ⟨t2, rfl⟩ := hv2
  obtain ⟨t3, rfl⟩ := hv3
  have st := stays_trans (stays_trans hk1 hk2) (stays_trans hk3 hk4)
  refine ⟨st _ _ ho, ?_⟩
  exact put_spec (c.up st) (stays_refl _) r hl (hf.st st) (ha.tl tstab_p (.of st)) fun h' tk vs' b1 b2 b3 => k h' tk vs' (fun b o hb e => b1 b o hb (st _ _ e)) b2 b3
/-- found = [] -/
theorem exec_found {x : Str} {px lp pos : Pos} {s : Shared} {m : Str → Option Value} {Q : Flow → Shared → Prop} {E : Value → Shared → Prop} (hs0 : h₀.StaysIn s.heap) (hL : h₀.get? env.locals = none) (hn : s.heap.Ns env.locals m)
    (k : ∀ fa h' tk, h₀.StaysIn h' → h₀.get? fa = none → fa ≠ env.locals → LS h' fa [] → h'.Ns env.locals (fun y => if y = x then some (.ref fa) else m y) → s.heap.get? fa = none → (∀ b o, b ≠ env.locals → s.heap.get? b = some o → h'.get? b = some o) → Q .next { s with heap := h', toks := tk })
    (hl : env.kindOf x = some .local) (hk : env.scope.kind = .function) (hs : swapsWith (.List [] lp) (some (.Name x px)) pos.line env = pure false) :
    wpAny (model prog w) A (exec (.Assign [.Name x px] (.List [] lp) pos) env) Q E s := by
  refine exec_asn (R := New0 s.heap) .newL hn hl hk hs fun v h2 h3 tk3 k1 k2 k3 k4 => ?_
  obtain ⟨fa, rfl, hf, hfn⟩ := k2
  have hfL : fa ≠ env.locals := fun q => by obtain ⟨o, _, _, ho, _⟩ := hn; rw [q, ho] at hfn; cases hfn
  refine k fa h3 tk3 (fun b o e => k3.extBut _ _ (fun q => by rw [q, hL] at e; cases e) (k1 _ _ (hs0 _ _ e))) ?_ hfL ?_ k4 hfn fun b o hb e => k3.extBut _ _ hb (k1 _ _ e)
  · cases q : h₀.get? fa with
    | none => rfl
    | some o => have := hs0 _ _ q; rw [hfn] at this; cases this
  · obtain ⟨n, e⟩ := hf; exact ⟨n, k3.extBut _ _ hfL e⟩
/-- return tuple(found) -/
theorem ret_found {mean : ExcName → Option Value} {mg mb : Str → Option Value} {x : Str} {fa : Addr} {acc : Dm} {vs : List Value} {m : Str → Option Value} {tp fp p pos : Pos} {s : Shared} {Q : Flow → Shared → Prop} {E : Value → Shared → Prop}
    (c : Cx w mean mg mb s.heap) (hl : LS s.heap fa vs) (ha : All2 IsP s.heap acc vs) (hlen : acc.length ≤ 1000000) (hn : s.heap.Ns env.locals m) (hm : m x = some (.ref fa))
    (k : ∀ v h' tk, s.heap.StaysIn h' → IsT IsP acc h' v → Q (.ret v) { s with heap := h', toks := tk })
    (hg : env.globals = mainGlobals) (hb : env.builtins = builtinsNs) (hk : env.scope.kind = .function) (ht : env.kindOf "tuple" = some .globalImplicit) (hx : env.kindOf x = some .local) (hd : (x == ("__debug__" : Str)) = false)
    (hst : starEach [.Name x p] env = [(false, eval (.Name x p) env)])
    (hcall : eval (.Call (.Name "tuple" tp) [.Name x p] [] fp) env = (do callWith fp (← eval (.Name "tuple" tp) env) [] (backTo fp (starEach [.Name x p] env)) (backToKw fp (keywordEach [] env)))) :
    wpAny (model prog w) A (exec (.Return (some (.Call (.Name "tuple" tp) [.Name x p] [] fp)) pos) env) Q E s := by
  refine exec_ret (.tupleOf tstab_p (xs := acc) hlen (c.blt (ns_tuple w) bb_tuple (by decide) hg hb hk ht rfl) ((Ev.loc hn hm hk hx hd).mono' fun g u hg eu => ?_) hst hcall) k
  cases eu
  exact ⟨fa, vs, rfl, (hl.st hg).isList, ha.tl tstab_p (.of hg)⟩
end
def foldPut (xs acc : Dm) : Dm := xs.foldl (fun acc p => putBehind acc p.1 p.2) acc
def joinD (d e : Dm) : Dm := foldPut (sortD (d ++ e)) []
theorem putBehind_len (acc : Dm) (lo hi : Int) : (putBehind acc lo hi).length ≤ acc.length + 1 := by
  unfold putBehind
  split
  · simp
  · next p hp =>
    have hne : acc ≠ [] := by rintro rfl; simp at hp
    have : 0 < acc.length := List.length_pos_iff.mpr hne
    split
    · split
      · simp only [List.length_append, List.length_dropLast, List.length_singleton]; omega
      · omega
    · simp
theorem foldPut_len : ∀ (xs acc : Dm), (foldPut xs acc).length ≤ acc.length + xs.length
  | [], acc => by simp [foldPut]
  | x :: xs, acc => by
    have h1 := foldPut_len xs (putBehind acc x.1 x.2)
    have h2 := putBehind_len acc x.1 x.2
    show (foldPut xs (putBehind acc x.1 x.2)).length ≤ _
    rw [List.length_cons]; omega
theorem foldPut_snoc (xs acc : Dm) (x : Int × Int) : foldPut (xs ++ [x]) acc = putBehind (foldPut xs acc) x.1 x.2 := by unfold foldPut; rw [List.foldl_append]; rfl

theorem cl_join {w : World} {A : Around} {mean : ExcName → Option Value} {mg mb : Str → Option Value} {h : Heap} {dv ev : Value} {d e : Dm} (c : Cx w mean mg mb h) (r : Rm A 3) (hd : IsT IsP d h dv) (he : IsT IsP e h ev) (hl : d.length + e.length < 64) :
    Cl pg w A h (.ref 119) [dv, ev] (IsT IsP (joinD d e)) := by
  intro s Q E hs₀ k
  refine enterC (prog := pg) (binds := [("d", dv), ("e", ev)]) hs₀ c.X c.T.nolimit (by k_is) (by k_is) r.room (by rfl) (by rfl) (fun L h₁ tk hL hs hn _ _ => ?_) (by rfl) (by rfl) (by rfl)
  have rd := fun env => r.deep (n := 2) env
  have cs := c.up hs₀
  refine wpAny_execs_cons (exec_found (h₀ := s.heap) hs hL hn (fun fa h3 tk3 st3 hsf hfL hf3 hn3 _ _ => ?_) rfl rfl (by rfl))
  have hfL : fa ≠ L := hfL
  have c3 := cs.up st3
  have out : ∀ {h'}, Kw [L, fa] h3 h' → s.heap.StaysIn h' := fun kw => kw.stays st3 (by simp [hL, hsf])
  have hd3 := stab_t tstab_p d _ _ _ (stays_trans hs₀ st3) hd
  have he3 := stab_t tstab_p e _ _ _ (stays_trans hs₀ st3) he
  have nd := nmT (prog := pg) (w := w) (x := "d") tstab_p hn3 rfl hd3 rfl
  have ne := nmT (prog := pg) (w := w) (x := "e") tstab_p hn3 rfl he3 rfl
  have hWo : ∀ a ∈ [L, fa], ∃ o, h3.get? a = some o := fun a ha => by
    rcases List.mem_cons.mp ha with rfl | ha
    · obtain ⟨o, _, _, ho, _⟩ := id hn3; exact ⟨o, ho⟩
    · rw [List.mem_singleton.mp ha]; obtain ⟨n, e⟩ := hf3; exact ⟨_, e⟩
  refine wpAny_execs_cons (for_rule (RS := IsP) (items := sortD (d ++ e)) (W := [L, fa]) (Inv := fun pre h m => m "found" = some (.ref fa) ∧ ∃ vs, LS h fa vs ∧ All2 IsP h (foldPut pre []) vs)
    ((Ev.sortT (c3.blt (ns_sorted w) bb_sorted (by decide) rfl rfl rfl rfl rfl) (Ev.addT tstab_p (nd.on (stays_refl _) ⟨rfl, rfl, rfl⟩) (ne.on (stays_refl _) ⟨rfl, rfl, rfl⟩) (by omega)) (by rw [List.length_append]; exact hl)).mono fun g u hu => src_new (rd _).hh tstab_p hu hWo)
    (fun a ha => ⟨hWo a ha, ?_⟩) (by simp [envOfC]) (binds_pair (rd _).hh rfl rfl (by decide) rfl) (.inr ⟨_, _, _, rfl⟩) hn3 (fun h' hk => ⟨rfl, [], hf3.st hk, trivial⟩) (fun pre h h' m ⟨x, vs, l, a⟩ lk => ⟨x, vs, l.lk lk, a.tl tstab_p lk.tl⟩) (fun pre h m m' x u => ⟨(u _ (by decide) (by decide)).trans x.1, x.2⟩) ?_ ?_ (fun _ => rfl))
  · rcases List.mem_cons.mp ha with rfl | ha
    · exact noTup_ns hn3
    · rw [List.mem_singleton.mp ha]; exact hf3.noTup
  · rintro pre x post s' m' hit hkw hn' ⟨t1, t2, e1, e2⟩ ⟨mf, vs, hl', ha⟩ ⟨h', tk', rfl⟩
    have c' := cs.up (out hkw)
    have nlo := nmI (prog := pg) (w := w) (x := "low") hn' e1 rfl
    have nhi := nmI (prog := pg) (w := w) (x := "high") hn' e2 rfl
    have nf := nmV (prog := pg) (w := w) (x := "found") hn' mf rfl
    have hlen : (foldPut pre []).length ≤ 1000000 := by
      have h1 := foldPut_len pre []
      have h2 : (sortD (d ++ e)).length = _ := sortD_len _
      rw [hit, List.length_append, List.length_append] at h2
      simp only [List.length_nil] at h1; omega
    refine wpAny_execs_cons (exec_put (vs := vs) (acc := foldPut pre []) c' (rd _) hlen hl' ha (nf.on (stays_refl _) ⟨rfl, rfl, rfl⟩) (nlo.on (stays_refl _) ⟨rfl, rfl, rfl⟩) (nhi.on (stays_refl _) ⟨rfl, rfl, rfl⟩) (fun h2 tk2 vs2 b1 b2 b3 => wpAny_execs_nil ?_) rfl rfl rfl rfl rfl rfl)
    refine ⟨h2, tk2, m', rfl, fun b o nb e => b1 b o (fun q => nb (by simp [q])) e, hn'.at' fun o eo => b1 _ o (Ne.symm hfL) eo, mf, vs2, b2, ?_⟩
    rw [foldPut_snoc]; exact b3
  · rintro h' tk' m' hkw hn' ⟨mf, vs, hl', ha⟩
    refine wpAny_execs_cons (ret_found (acc := joinD d e) (cs.up (out hkw)) hl' ha ?_ hn' mf (fun v h4 tk4 k4 hv => ?_) rfl rfl rfl rfl rfl rfl rfl rfl)
    · have h1 := foldPut_len (sortD (d ++ e)) []
      rw [sortD_len, List.length_append] at h1
      simp only [List.length_nil] at h1
      show (foldPut _ _).length ≤ _; omega
    · exact k v h4 tk4 (stays_trans (out hkw) k4) hv

def fromD (ns : List Int) : Dm := foldPut (ns.map fun v => (v, v)) []
theorem cl_from_values {w : World} {A : Around} {mean : ExcName → Option Value} {mg mb : Str → Option Value} {h : Heap} {dv : Value} {ns : List Int} (c : Cx w mean mg mb h) (r : Rm A 3) (hd : IsL IsI ns h dv) (hl : ns.length < 128) (hp : ns.Pairwise (· > ·)) :
    Cl pg w A h (.ref 69) [dv] (IsT IsP (fromD ns.reverse)) := by
  intro s Q E hs₀ k
  refine enterC (prog := pg) (binds := [("numbers", dv)]) hs₀ c.X c.T.nolimit (by k_is) (by k_is) r.room (by rfl) (by rfl) (fun L h₁ tk hL hs hn _ _ => ?_) (by rfl) (by rfl) (by rfl)
  have rd := fun env => r.deep (n := 2) env
  have cs := c.up hs₀
  refine wpAny_execs_cons (exec_found (h₀ := s.heap) hs hL hn (fun fa h3 tk3 st3 hsf hfL hf3 hn3 _ _ => ?_) rfl rfl (by rfl))
  have hfL : fa ≠ L := hfL
  have c3 := cs.up st3
  have out : ∀ {h'}, Kw [L, fa] h3 h' → s.heap.StaysIn h' := fun kw => kw.stays st3 (by simp [hL, hsf])
  have hd3 := stab_l tstab_i ns _ _ _ (stays_trans hs₀ st3) hd
  have nd := nmL (prog := pg) (w := w) (x := "numbers") tstab_i hn3 rfl hd3 rfl
  have hWo : ∀ a ∈ [L, fa], ∃ o, h3.get? a = some o := fun a ha => by
    rcases List.mem_cons.mp ha with rfl | ha
    · obtain ⟨o, _, _, ho, _⟩ := id hn3; exact ⟨o, ho⟩
    · rw [List.mem_singleton.mp ha]; obtain ⟨n, e⟩ := hf3; exact ⟨_, e⟩
  refine wpAny_execs_cons (for_rule (RS := IsI) (items := ns.reverse) (W := [L, fa]) (Inv := fun pre h m => m "found" = some (.ref fa) ∧ ∃ vs, LS h fa vs ∧ All2 IsP h (fromD pre) vs)
    ((Ev.sortF (c3.blt (ns_sorted w) bb_sorted (by decide) rfl rfl rfl rfl rfl) (nd.on (stays_refl _) ⟨rfl, rfl, rfl⟩) hl hp).mono fun g u hu => src_new (rd _).hh tstab_i hu hWo)
    (fun a ha => ⟨hWo a ha, ?_⟩) (by simp [envOfC]) (binds_int rfl rfl) (.inl ⟨_, _, rfl⟩) hn3 (fun h' hk => ⟨rfl, [], hf3.st hk, trivial⟩) (fun pre h h' m ⟨x, vs, l, a⟩ lk => ⟨x, vs, l.lk lk, a.tl tstab_p lk.tl⟩) (fun pre h m m' x u => ⟨(u _ (by decide)).trans x.1, x.2⟩) ?_ ?_ (fun _ => rfl))
  · rcases List.mem_cons.mp ha with rfl | ha
    · exact noTup_ns hn3
    · rw [List.mem_singleton.mp ha]; exact hf3.noTup
  · rintro pre x post s' m' hit hkw hn' ⟨t1, e1⟩ ⟨mf, vs, hl', ha⟩ ⟨h', tk', rfl⟩
    have c' := cs.up (out hkw)
    have nv := nmI (prog := pg) (w := w) (x := "v") hn' e1 rfl
    have nf := nmV (prog := pg) (w := w) (x := "found") hn' mf rfl
    have hlen : (fromD pre).length ≤ 1000000 := by
      have h1 := foldPut_len (pre.map fun v => (v, v)) []
      have h2 := congrArg List.length hit
      rw [List.length_reverse, List.length_append] at h2
      rw [List.length_map] at h1
      simp only [List.length_nil] at h1
      show (foldPut _ _).length ≤ _; omega
    refine wpAny_execs_cons (exec_put (vs := vs) (acc := fromD pre) c' (rd _) hlen hl' ha (nf.on (stays_refl _) ⟨rfl, rfl, rfl⟩) (nv.on (stays_refl _) ⟨rfl, rfl, rfl⟩) (nv.on (stays_refl _) ⟨rfl, rfl, rfl⟩) (fun h2 tk2 vs2 b1 b2 b3 => wpAny_execs_nil ?_) rfl rfl rfl rfl rfl rfl)
    refine ⟨h2, tk2, m', rfl, fun b o nb e => b1 b o (fun q => nb (by simp [q])) e, hn'.at' fun o eo => b1 _ o (Ne.symm hfL) eo, mf, vs2, b2, ?_⟩
    show All2 IsP h2 (foldPut ((pre ++ [x]).map fun v => (v, v)) []) vs2
    rw [List.map_append]
    show All2 IsP h2 (foldPut ((pre.map fun v => (v, v)) ++ [(x, x)]) []) vs2
    rw [foldPut_snoc]; exact b3
  · rintro h' tk' m' hkw hn' ⟨mf, vs, hl', ha⟩
    refine wpAny_execs_cons (ret_found (acc := fromD ns.reverse) (cs.up (out hkw)) hl' ha ?_ hn' mf (fun v h4 tk4 k4 hv => ?_) rfl rfl rfl rfl rfl rfl rfl rfl)
    · have h1 := foldPut_len (ns.reverse.map fun v => (v, v)) []
      rw [List.length_map, List.length_reverse] at h1
      simp only [List.length_nil] at h1
      show (foldPut _ _).length ≤ _; omega
    · exact k v h4 tk4 (stays_trans (out hkw) k4) hv
end Mine
end
section -- Q15
open PySem PySem.W PyProof.Rows PySem.Calls
set_option maxRecDepth 100000
set_option maxHeartbeats 400000
set_option linter.unusedVariables false
namespace Mine
theorem fill15 : (PySem.Challenge.rw_qd0006_01, Mine.hd.heap_39) = (PySem.Challenge.rw_qd0006_01, Mine.hd.heap_39) := by k_fill; rfl

def mstep (high : Int) (st : Dm × Int) (q : Int × Int) : Dm × Int := if st.2 ≤ q.2 ∧ q.1 ≤ high then ((if st.2 < q.1 then st.1 ++ [(st.2, q.1 - 1)] else st.1), q.2 + 1) else st
def mrow (e : Dm) (acc : Dm) (p : Int × Int) : Dm := (e.foldl (mstep p.2) (acc, p.1)).1 ++ (if (e.foldl (mstep p.2) (acc, p.1)).2 ≤ p.2 then [((e.foldl (mstep p.2) (acc, p.1)).2, p.2)] else [])
def minusD (d e : Dm) : Dm := d.foldl (mrow e) []
theorem mstep_len (high : Int) : ∀ (e : Dm) (st : Dm × Int), (e.foldl (mstep high) st).1.length ≤ st.1.length + e.length
  | [], st => by simp
  | q :: e, st => by
    rw [List.foldl_cons, List.length_cons]
    have h1 := mstep_len high e (mstep high st q)
    have h2 : (mstep high st q).1.length ≤ st.1.length + 1 := by
      unfold mstep
      split
      · dsimp only; split <;> simp
      · omega
    omega
theorem mrow_len (e acc : Dm) (p : Int × Int) : (mrow e acc p).length ≤ acc.length + e.length + 1 := by
  unfold mrow
  have h1 := mstep_len p.2 e (acc, p.1)
  rw [List.length_append]
  have h2 : (if (e.foldl (mstep p.2) (acc, p.1)).2 ≤ p.2 then [((e.foldl (mstep p.2) (acc, p.1)).2, p.2)] else ([] : Dm)).length ≤ 1 := by split <;> simp
  simp only at h1; omega
theorem mfold_len (e : Dm) : ∀ (d acc : Dm), (d.foldl (mrow e) acc).length ≤ acc.length + d.length * (e.length + 1)
  | [], acc => by simp
  | p :: d, acc => by
    rw [List.foldl_cons, List.length_cons]
    have h1 := mfold_len e d (mrow e acc p)
    have h2 := mrow_len e acc p
    rw [Nat.add_mul]; omega

theorem cl_minus {w : World} {A : Around} {mean : ExcName → Option Value} {mg mb : Str → Option Value} {h : Heap} {dv ev : Value} {d e : Dm} (c : Cx w mean mg mb h) (r : Rm A 3) (hd : IsT IsP d h dv) (he : IsT IsP e h ev) (hl : d.length ≤ 64) (hl2 : e.length ≤ 64) :
    Cl pg w A h (.ref 126) [dv, ev] (IsT IsP (minusD d e)) := by
  intro s Q E hs₀ k
  refine enterC (prog := pg) (binds := [("d", dv), ("e", ev)]) hs₀ c.X c.T.nolimit (by k_is) (by k_is) r.room (by rfl) (by rfl) (fun L h₁ tk hL hs hn _ _ => ?_) (by rfl) (by rfl) (by rfl)
  have rd := fun env => r.deep (n := 2) env
  have cs := c.up hs₀
  refine wpAny_execs_cons (exec_found (h₀ := s.heap) hs hL hn (fun fa h3 tk3 st3 hsf hfL hf3 hn3 _ _ => ?_) rfl rfl (by rfl))
  have hfL : fa ≠ L := hfL
  have c3 := cs.up st3
  have out : ∀ {h'}, Kw [L, fa] h3 h' → s.heap.StaysIn h' := fun kw => kw.stays st3 (by simp [hL, hsf])
  have hd3 := stab_t tstab_p d _ _ _ (stays_trans hs₀ st3) hd
  have he3 := stab_t tstab_p e _ _ _ (stays_trans hs₀ st3) he
  have hblen : ∀ pre post : Dm, d = pre ++ post → (pre.foldl (mrow e) []).length ≤ 5000 := fun pre post hq => by
    have h1 := mfold_len e pre []
    have h2 : pre.length ≤ 64 := by rw [hq, List.length_append] at hl; omega
    have h3 : pre.length * (e.length + 1) ≤ 64 * 65 := Nat.mul_le_mul h2 (by omega)
    simp only [List.length_nil] at h1; omega
  have hWo : ∀ {h : Heap} {m : Str → Option Value} {vs}, h.Ns L m → LS h fa vs → ∀ a ∈ [L, fa], (∃ o, h.get? a = some o) ∧ NoTup h a := fun hn hf a ha => by
    rcases List.mem_cons.mp ha with rfl | ha
    · obtain ⟨o, _, _, ho, _⟩ := id hn; exact ⟨⟨o, ho⟩, noTup_ns hn⟩
    · rw [List.mem_singleton.mp ha]; obtain ⟨n, e⟩ := id hf; exact ⟨⟨_, e⟩, hf.noTup⟩
  have srcs : ∀ {A : Around} {xs : Dm} {h g : Heap} {m : Str → Option Value} {vs} {v u : Value}, A.handled = none → h.Ns L m → LS h fa vs → h.StaysIn g → IsT IsP xs g u → Src pg w A IsP xs g u ∧ ∀ a ∈ [L, fa], u ≠ .ref a := fun hh hn hf hg hu =>
    ⟨src_tuple hh tstab_p hu, fun a ha => ne_of_noTup hu (by
      rcases List.mem_cons.mp ha with rfl | ha
      · exact noTup_ns (hn.keeps hg)
      · rw [List.mem_singleton.mp ha]; exact (hf.st hg).noTup)⟩
  have nd := nmT (prog := pg) (w := w) (x := "d") tstab_p hn3 rfl hd3 rfl
  refine wpAny_execs_cons (for_rule (RS := IsP) (items := d) (W := [L, fa]) (Inv := fun pre h m => m "found" = some (.ref fa) ∧ m "e" = some ev ∧ ∃ vs, LS h fa vs ∧ All2 IsP h (pre.foldl (mrow e) []) vs)
    ((nd.on (stays_refl _) ⟨rfl, rfl, rfl⟩).mono' fun g u hg hu => srcs (v := u) (rd _).hh hn3 hf3 hg hu) (hWo hn3 hf3) (by simp [envOfC]) (binds_pair (rd _).hh rfl rfl (by decide) rfl) (.inr ⟨_, _, _, rfl⟩) hn3 (fun h' hk => ⟨rfl, rfl, [], hf3.st hk, trivial⟩)
    (fun pre h h' m ⟨x, y, vs, l, a⟩ lk => ⟨x, y, vs, l.lk lk, a.tl tstab_p lk.tl⟩) (fun pre h m m' x u => ⟨(u _ (by decide) (by decide)).trans x.1, (u _ (by decide) (by decide)).trans x.2.1, x.2.2⟩) ?_ ?_ (fun _ => rfl))
  · rintro pre p post s' m' hit hkw hn' ⟨t1, t2, e1, e2⟩ ⟨mf, me, vs, hl', ha⟩ ⟨h', tk', rfl⟩
    have hacc0 := hblen _ _ hit
    refine wpAny_execs_cons (exec_asn (R := IsI p.1) ((nmI (prog := pg) (w := w) (x := "low") hn' e1 rfl).on (stays_refl _) ⟨rfl, rfl, rfl⟩) hn' rfl rfl (by rfl) fun v h4 h5 tk5 k1 k2 k3 k4 => ?_)
    obtain ⟨tb, rfl⟩ := k2
    have kw5 : Kw [L, fa] h' h5 := fun b o nb eb => k3.extBut b o (fun q => nb (by have q' : b = L := q; simp [q'])) (k1 _ _ eb)
    have hl5 : LS h5 fa vs := by obtain ⟨n, en⟩ := hl'.st k1; exact ⟨n, k3.extBut _ _ hfL en⟩
    have ha5 : All2 IsP h5 (pre.foldl (mrow e) []) vs := ha.tl tstab_p ((TL.of k1).trans (TL.but k3.extBut (noTup_ns (hn'.keeps k1))))
    have he5 := stab_t tstab_p e _ _ _ (stays_trans hs₀ (out (hkw.trans kw5))) he
    generalize hm5 : (fun y => if y = Str.ofString "begin" then some (Value.int p.1 tb) else m' y) = m5 at k4
    have hb5 : m5 "begin" = some (.int p.1 tb) := by rw [← hm5]; simp
    have g5 : ∀ z : Str, z ≠ Str.ofString "begin" → m5 z = m' z := fun z z1 => by rw [← hm5]; simp only [if_neg z1]
    refine wpAny_execs_cons (for_rule (RS := IsP) (items := e) (W := [L, fa]) (Inv := fun pre2 h m => m "found" = some (.ref fa) ∧ m "e" = some ev ∧ m "high" = some (.int p.2 t2) ∧ ∃ t, m "begin" = some (.int (pre2.foldl (mstep p.2) (pre.foldl (mrow e) [], p.1)).2 t) ∧
      ∃ vs, LS h fa vs ∧ All2 IsP h (pre2.foldl (mstep p.2) (pre.foldl (mrow e) [], p.1)).1 vs)
      (((nmT (prog := pg) (w := w) (x := "e") tstab_p k4 ((g5 _ (by decide)).trans me) he5 rfl).on (stays_refl _) ⟨rfl, rfl, rfl⟩).mono' fun g u hg hu => srcs (v := u) (rd _).hh k4 hl5 hg hu) (hWo k4 hl5) (by simp [envOfC]) (binds_pair (rd _).hh rfl rfl (by decide) rfl) (.inr ⟨_, _, _, rfl⟩) k4
      (fun h6 hk => ⟨(g5 _ (by decide)).trans mf, (g5 _ (by decide)).trans me, (g5 _ (by decide)).trans e2, tb, hb5, vs, hl5.st hk, ha5.tl tstab_p (.of hk)⟩)
      (fun pre h h' m ⟨x, y, z, t, b, vs, l, a⟩ lk => ⟨x, y, z, t, b, vs, l.lk lk, a.tl tstab_p lk.tl⟩) (fun pre h m m' ⟨x, y, z, t, b, q⟩ u => ⟨(u _ (by decide) (by decide)).trans x, (u _ (by decide) (by decide)).trans y, (u _ (by decide) (by decide)).trans z, t, (u _ (by decide) (by decide)).trans b, q⟩) ?_ ?_ (fun _ => rfl))
    · rintro pre2 q post2 s6 m6 hit2 hkw6 hn6 ⟨u1, u2, f1, f2⟩ ⟨mf6, me6, mh6, t6, mb6, vs6, hl6, ha6⟩ ⟨h6, tk6, rfl⟩
      have hacc2 : (pre2.foldl (mstep p.2) (pre.foldl (mrow e) [], p.1)).1.length ≤ 6000 := by
        have h1 := mstep_len p.2 pre2 (pre.foldl (mrow e) [], p.1)
        rw [hit2, List.length_append] at hl2
        simp only at h1; omega
      have hsn : (pre2 ++ [q]).foldl (mstep p.2) (pre.foldl (mrow e) [], p.1) = mstep p.2 (pre2.foldl (mstep p.2) (pre.foldl (mrow e) [], p.1)) q := by rw [List.foldl_append]; rfl
      rw [hsn]
      generalize pre2.foldl (mstep p.2) (pre.foldl (mrow e) [], p.1) = st at mb6 ha6 hacc2 ⊢
      have nl := nmI (prog := pg) (w := w) (x := "left") hn6 f1 rfl
      have nr := nmI (prog := pg) (w := w) (x := "right") hn6 f2 rfl
      have nh := nmI (prog := pg) (w := w) (x := "high") hn6 mh6 rfl
      have nb := nmI (prog := pg) (w := w) (x := "begin") hn6 mb6 rfl
      have nf := nmV (prog := pg) (w := w) (x := "found") hn6 mf6 rfl
      refine wpAny_execs_cons (exec_if (b := decide (st.2 ≤ q.2) && decide (q.1 ≤ p.2)) (.and (.ge (nr.on (stays_refl _) ⟨rfl, rfl, rfl⟩) (nb.on (stays_refl _) ⟨rfl, rfl, rfl⟩)) fun _ => .le (nl.on (stays_refl _) ⟨rfl, rfl, rfl⟩) (nh.on (stays_refl _) ⟨rfl, rfl, rfl⟩)) fun h7 tk7 hk7 => ⟨fun hb => ?_, fun hb => ?_⟩)
      · simp only [Bool.and_eq_true, decide_eq_true_eq] at hb
        refine wpAny_execs_cons (wpAny_mono (Q := fun f s'' => f = .next ∧ ∃ h8 tk8 vs8, s'' = ({ s with heap := h8, toks := tk8 } : Shared) ∧ Kw [L, fa] h7 h8 ∧ h8.Ns L m6 ∧ LS h8 fa vs8 ∧ All2 IsP h8 (if st.2 < q.1 then st.1 ++ [(st.2, q.1 - 1)] else st.1) vs8) ?_ ?_ fun _ _ x => x)
        · refine exec_if (.gt (nl.on hk7 ⟨rfl, rfl, rfl⟩) (nb.on hk7 ⟨rfl, rfl, rfl⟩)) fun h8 tk8 hk8 => ⟨fun hb2 => ?_, fun hb2 => ?_⟩
          · simp only [decide_eq_true_eq] at hb2
            have hk78 := stays_trans hk7 hk8
            refine wpAny_execs_cons (exec_append (vs := vs6) (R := IsP (st.2, q.1 - 1)) (nf.on hk78 ⟨rfl, rfl, rfl⟩) (.pair (nb.on hk78 ⟨rfl, rfl, rfl⟩) (.sub (nl.on hk78 ⟨rfl, rfl, rfl⟩) .lit)) (hl6.st hk78) (by rw [ha6.len]; omega) (fun v h9 h10 tk10 j1 j2 j3 j4 => wpAny_execs_nil ?_) rfl rfl ⟨_, rfl⟩)
            have hl9 : LS h9 fa vs6 := (hl6.st hk78).st j1
            refine ⟨rfl, h10, tk10, _, rfl, fun b o nb eb => j3 b o (fun q => nb (by simp [q])) (j1 _ _ (hk8 _ _ eb)), (hn6.keeps (stays_trans hk78 j1)).at' fun o eo => j3 _ o (Ne.symm hfL) eo, j4, ?_⟩
            rw [if_pos hb2]
            exact ((ha6.tl tstab_p (.of (stays_trans hk78 j1))).snoc j2).tl tstab_p (TL.but j3 hl9.noTup)
          · simp only [decide_eq_false_iff_not] at hb2
            refine wpAny_execs_nil ⟨rfl, h8, tk8, vs6, rfl, .of hk8, hn6.keeps (stays_trans hk7 hk8), hl6.st (stays_trans hk7 hk8), ?_⟩
            rw [if_neg hb2]
            exact ha6.tl tstab_p (.of (stays_trans hk7 hk8))
        · rintro f s'' ⟨rfl, h8, tk8, vs8, rfl, kw8, hn8, hl8, ha8⟩
          have nr8 := nmI (prog := pg) (w := w) (x := "right") hn8 f2 rfl
          refine wpAny_execs_cons (exec_asn (R := IsI (q.2 + 1)) (.add (nr8.on (stays_refl _) ⟨rfl, rfl, rfl⟩) .lit) hn8 rfl rfl (by rfl) fun v h9 h10 tk10 j1 j2 j3 j4 => wpAny_execs_nil (wpAny_execs_nil ?_))
          obtain ⟨t, rfl⟩ := j2
          refine ⟨h10, tk10, _, rfl, ((Kw.of hk7).trans kw8).trans (fun b o nb eb => j3.extBut b o (fun q => nb (by have q' : b = L := q; simp [q'])) (j1 _ _ eb)), j4, ?_⟩
          have hms : mstep p.2 st q = ((if st.2 < q.1 then st.1 ++ [(st.2, q.1 - 1)] else st.1), q.2 + 1) := by unfold mstep; rw [if_pos hb]
          rw [hms]
          refine ⟨mf6, me6, mh6, t, by simp, vs8, ?_, ?_⟩
          · obtain ⟨n9, en9⟩ := hl8.st j1; exact ⟨n9, j3.extBut _ _ hfL en9⟩
          · exact ha8.tl tstab_p ((TL.of j1).trans (TL.but j3.extBut (noTup_ns (hn8.keeps j1))))
      · have hms : mstep p.2 st q = st := by
          unfold mstep; rw [if_neg]; rintro ⟨a, b⟩; simp [a, b] at hb
        rw [hms]
        exact wpAny_execs_nil (wpAny_execs_nil ⟨h7, tk7, m6, rfl, .of hk7, hn6.keeps hk7, mf6, me6, mh6, t6, mb6, vs6, hl6.st hk7, ha6.tl tstab_p (.of hk7)⟩)
    · rintro h6 tk6 m6 hkw6 hn6 ⟨mf6, me6, mh6, t6, mb6, vs6, hl6, ha6⟩
      have hacc2 : (e.foldl (mstep p.2) (pre.foldl (mrow e) [], p.1)).1.length ≤ 6000 := by
        have h1 := mstep_len p.2 e (pre.foldl (mrow e) [], p.1)
        simp only at h1; omega
      have hrow : mrow e (pre.foldl (mrow e) []) p = (e.foldl (mstep p.2) (pre.foldl (mrow e) [], p.1)).1 ++ (if (e.foldl (mstep p.2) (pre.foldl (mrow e) [], p.1)).2 ≤ p.2 then [((e.foldl (mstep p.2) (pre.foldl (mrow e) [], p.1)).2, p.2)] else []) := rfl
      have hsn : (pre ++ [p]).foldl (mrow e) [] = mrow e (pre.foldl (mrow e) []) p := by rw [List.foldl_append]; rfl
      rw [hsn, hrow]
      generalize e.foldl (mstep p.2) (pre.foldl (mrow e) [], p.1) = st at mb6 ha6 hacc2 ⊢
      have nh := nmI (prog := pg) (w := w) (x := "high") hn6 mh6 rfl
      have nb := nmI (prog := pg) (w := w) (x := "begin") hn6 mb6 rfl
      have nf := nmV (prog := pg) (w := w) (x := "found") hn6 mf6 rfl
      have kw6 : Kw [L, fa] h' h6 := kw5.trans hkw6
      refine wpAny_execs_cons (exec_if (.le (nb.on (stays_refl _) ⟨rfl, rfl, rfl⟩) (nh.on (stays_refl _) ⟨rfl, rfl, rfl⟩)) fun h7 tk7 hk7 => ⟨fun hb => ?_, fun hb => ?_⟩)
      · simp only [decide_eq_true_eq] at hb
        refine wpAny_execs_cons (exec_append (vs := vs6) (R := IsP (st.2, p.2)) (nf.on hk7 ⟨rfl, rfl, rfl⟩) (.pair (nb.on hk7 ⟨rfl, rfl, rfl⟩) (nh.on hk7 ⟨rfl, rfl, rfl⟩)) (hl6.st hk7) (by rw [ha6.len]; omega) (fun v h9 h10 tk10 j1 j2 j3 j4 => wpAny_execs_nil (wpAny_execs_nil ?_)) rfl rfl ⟨_, rfl⟩)
        refine ⟨h10, tk10, m6, rfl, kw6.trans (fun b o nb eb => j3 b o (fun q => nb (by simp [q])) (j1 _ _ (hk7 _ _ eb))), (hn6.keeps (stays_trans hk7 j1)).at' fun o eo => j3 _ o (Ne.symm hfL) eo, mf6, me6, _, j4, ?_⟩
        rw [if_pos hb]
        exact ((ha6.tl tstab_p (.of (stays_trans hk7 j1))).snoc j2).tl tstab_p (TL.but j3 ((hl6.st hk7).st j1).noTup)
      · simp only [decide_eq_false_iff_not] at hb
        rw [if_neg hb, List.append_nil]
        exact wpAny_execs_nil (wpAny_execs_nil ⟨h7, tk7, m6, rfl, kw6.trans (.of hk7), hn6.keeps hk7, mf6, me6, vs6, hl6.st hk7, ha6.tl tstab_p (.of hk7)⟩)
  · rintro h' tk' m' hkw hn' ⟨mf, me, vs, hl', ha⟩
    refine wpAny_execs_cons (ret_found (acc := minusD d e) (cs.up (out hkw)) hl' ha ?_ hn' mf (fun v h4 tk4 k4 hv => ?_) rfl rfl rfl rfl rfl rfl rfl rfl)
    · have := hblen d [] (by simp)
      show (d.foldl (mrow e) []).length ≤ _; omega
    · exact k v h4 tk4 (stays_trans (out hkw) k4) hv
end Mine
end
section -- Q16
open PySem PySem.W PyProof.Rows PySem.Calls
set_option maxRecDepth 100000
set_option maxHeartbeats 400000
set_option linter.unusedVariables false
namespace Mine
theorem slot_rev_init : Slot "reversed" "__init__" "object.__init__" :=
  .of (owner := "object") (n := "__init__") (by rw [typeLookup_type, builtinLookup_eq_fast]; kernel_rfl) (by decide +kernel) (by decide +kernel) (by decide +kernel)
    (by first | exact .inl (by decide +kernel) | exact .inr (by decide +kernel)) (by rw [isSubtype_type]; kernel_rfl)
theorem slot_rev_next : Slot "reversed" "__next__" "reversed.__next__" :=
  .of (owner := "reversed") (n := "__next__") (by rw [typeLookup_type, builtinLookup_eq_fast]; kernel_rfl) (by decide +kernel) (by decide +kernel) (by decide +kernel)
    (by first | exact .inl (by decide +kernel) | exact .inr (by decide +kernel)) (by rw [isSubtype_type]; kernel_rfl)
theorem slot_rev_iter : Slot "reversed" "__iter__" "reversed.__iter__" :=
  .of (owner := "reversed") (n := "__iter__") (by rw [typeLookup_type, builtinLookup_eq_fast]; kernel_rfl) (by decide +kernel) (by decide +kernel) (by decide +kernel)
    (by first | exact .inl (by decide +kernel) | exact .inr (by decide +kernel)) (by rw [isSubtype_type]; kernel_rfl)
theorem entry_rev_next : entryFor table "reversed.__next__" = some Builtin.«reversed.__next__» := entryFor_of_tree (by kernel_rfl)
theorem entry_rev_iter : entryFor table "reversed.__iter__" = some Builtin.«dict_keyiterator.__iter__» :=
  entryFor_alias (id' := "dict_keyiterator.__iter__") (by kernel_rfl) (by first | rfl | decide +kernel | (unfold String.splitOn; simp +decide [String.splitOnAux])) (by decide +kernel) (by kernel_rfl)
theorem args_rev_next (a : Value) : argsOk "reversed.__next__" ⟨[a], []⟩ := by unfold argsOk; kernel_rfl
theorem args_rev_iter (a : Value) : argsOk "reversed.__iter__" ⟨[a], []⟩ := by unfold argsOk; kernel_rfl
theorem called_reversed : TypeCalled "reversed" "reversed.__new__" "object.__init__" :=
  ⟨by decide +kernel, by decide +kernel, ⟨_, _, F.mro_reversed⟩, F.made_reversed, by decide +kernel, F.sub_reversed_self, slot_rev_init⟩
theorem tuple_no_reversed : typeLookup (.type "tuple") "__reversed__" = pure none := by rw [typeLookup_type, builtinLookup_eq_fast]; kernel_rfl

section
variable {prog : Program} {w : World} {A : Around} {E : Value → Shared → Prop} {s : Shared}
abbrev rvObj (a : Addr) (i : Int) : Obj := { cls := .type "reversed", data := .fields #[.ref a, rawInt i] }
def IsRv (h : Heap) (I a : Addr) (i : Int) : Prop := ∃ o, h.get? I = some o ∧ o.cls = .type "reversed" ∧ o.data = .fields #[.ref a, rawInt i]
theorem IsRv.typeIs {I a : Addr} {i : Int} (x : IsRv s.heap I a i) : s.TypeIs (.ref I) "reversed" := let ⟨o, ho, hc, _⟩ := x; ⟨o, ho, hc⟩
theorem IsRv.at {h h' : Heap} {I a : Addr} {i : Int} (x : IsRv h I a i) (e : ∀ o, h.get? I = some o → h'.get? I = some o) : IsRv h' I a i := let ⟨o, ho, r⟩ := x; ⟨o, e _ ho, r⟩

theorem code_rev_new {a : Addr} {items : Array Value} {Q₁ : Value → Shared → Prop} (hl : IsTup s.heap a items) (hsz : items.size ≤ 1000000)
    (h : ∀ tk, Q₁ (.ref s.heap.objs.size) { s with heap := s.heap.push (rvObj a ((items.size : Int) - 1)), toks := tk }) :
    codeAny (model prog w) A (.call (.builtin "reversed.__new__") ⟨[.type "reversed", .ref a], []⟩) (wants Q₁ E) s := by
  have hT : s.TypeIs (.ref a) "tuple" := hl.typeIs
  refine codeAny_of_tree ?_
  show wpAny _ A.in1 (do checkBuiltinCall "reversed.__new__" ⟨[.type "reversed", .ref a], []⟩; again (.builtin "reversed.__new__" ⟨[.type "reversed", .ref a], []⟩)) _ _ s
  refine wpAny_bind (wpAny_of_eq (F.newCall_reversed_1 _) (wpAny_pure ⟨plainId_quiet F.plain_reversed_new _, codeAny_builtin F.entry_reversed_new ?_⟩))
  rw [Around.under_plainId F.plain_reversed_new _]
  unfold Builtin.«reversed.__new__»
  refine wpAny_bind (wpAny_of_eq (newClass_reversed _) ?_)
  try dsimp only
  refine wpAny_bind (wpAny_of_eq (a := ()) (by first | rfl | kernel_rfl) ?_)
  refine wpAny_bind (wpAny_of_eq (a := ()) (by first | rfl | kernel_rfl) ?_)
  try dsimp only
  refine wpAny_bind (wpAny_specialOf hT tuple_no_reversed ?_)
  try dsimp only
  refine wpAny_bind ?_
  show wpAny _ _ (isInstance (.ref a) (.type "dict") >>= _) _ _ _
  refine wpAny_bind (wpAny_isInstance (b := false) hT (by rw [isSubtype_type]; kernel_rfl) ?_)
  show wpAny _ _ (specialOf (.ref a) "__getitem__" >>= _) _ _ _
  refine wpAny_bind (wpAny_specialOf hT slot_tuple_getitem.lookup ?_)
  dsimp only
  rw [if_pos (by decide)]
  refine wpAny_pure ?_
  simp only [Bool.not_true, Bool.false_eq_true, if_false]
  refine wpAny_bind (len_tuple hl (by omega) ?_)
  refine wpAny_bind (wpAny_of_eq (a := some (items.size : Int)) rfl ?_)
  dsimp only
  refine wpAny_bind (m := newObj (.type "reversed") (.fields #[.ref a, rawInt ((items.size : Int) - 1)])) (wpAny_newObj_type ?_ (by size_fits))
  exact wpAny_pure (h _)

theorem call_rev {a : Addr} {items : Array Value} {Q : Value → Shared → Prop} (hl : IsTup s.heap a items) (hsz : items.size ≤ 1000000)
    (h : ∀ tk, Q (.ref s.heap.objs.size) { s with heap := s.heap.push (rvObj a ((items.size : Int) - 1)), toks := tk }) : wpAny (model prog w) A (call (.type "reversed") [.ref a]) Q E s := by
  refine callType_codes (Q₁ := fun obj s₁ => s₁.TypeIs obj "reversed" ∧ Q obj s₁) called_reversed (F.typeCall_reversed_1 _) F.entry_object_init (code_rev_new hl hsz fun tk => ⟨⟨_, Heap.get?_push_size _ rfl, rfl⟩, h tk⟩) fun obj s₁ h₁ => ?_
  exact ⟨h₁.1, F.args_object_init_2 obj _, object_init_meets called_reversed.init.lookup called_reversed.made (by decide) prog w A.in1 _ s₁ ⟨h₁.1, rfl, h₁.2⟩⟩

theorem next_rv_item {I a : Addr} {i : Nat} {items : Array Value} {x : Value} {Q : Option Value → Shared → Prop} (hit : IsRv s.heap I a (i : Int)) (hl : IsTup s.heap a items) (hx : items[i]? = some x) (hsz : items.size ≤ 1000000)
    (hQ : ∀ h' tk, IsRv h' I a ((i : Int) - 1) → Heap.SameBut I s.heap h' → Q (some x) { s with heap := h', toks := tk }) : wpAny (model prog w) A (pyNext (.ref I)) Q E s := by
  have hT : s.TypeIs (.ref a) "tuple" := hl.typeIs
  obtain ⟨o, ho, hc, hd⟩ := id hit
  have hi : i < items.size := by obtain ⟨q, _⟩ := Array.getElem?_eq_some_iff.mp hx; exact q
  unfold pyNext
  refine wpAny_bind (wpAny_attempt (wpAny_callSpecial?_slot (name := Str.ofString "__next__") hit.typeIs slot_rev_next
    (wpAny_call_entry slot_rev_next hit.typeIs entry_rev_next ?_ (args_rev_next _))))
  unfold Builtin.«reversed.__next__»
  refine wpAny_bind (wpAny_of_eq (a := (Value.ref I, [])) rfl ?_)
  try dsimp only
  refine wpAny_bind (wpAny_field ho hd (x := .ref a) rfl ?_)
  refine wpAny_bind (wpAny_field ho hd (x := rawInt (i : Int)) rfl ?_)
  show wpAny _ _ (if (i : Int) < 0 then _ else _) _ _ s
  rw [if_neg (by omega)]
  refine wpAny_bind (wpAny_specialOf hT slot_tuple_getitem.lookup ?_)
  simp only [Option.isNone_some, Bool.false_eq_true, if_false]
  refine wpAny_bind (wpAny_mkInt ?_)
  refine wpAny_bind (wpAny_attempt (getItem_tuple (j := i) hl (by omega) (by omega) (seqIdx_pos (by omega) (by omega)) hx ?_))
  dsimp only
  refine wpAny_bind (wpAny_field ho hd (x := rawInt (i : Int)) rfl ?_)
  show wpAny _ _ (setField (.ref I) 1 (rawInt ((i : Int) - 1)) >>= _) _ _ _
  refine wpAny_bind (wpAny_setField ho hd (by simp) ?_)
  refine wpAny_pure ⟨x, rfl, wpAny_pure (hQ _ _ ?_ (Heap.SameBut.update ..))⟩
  exact ⟨_, Heap.get?_update_self _ ho (Obj.isFreed_of_fields (Obj.data_mapFields hd _)), (Obj.cls_mapFields ..).trans hc, by
    rw [Obj.data_mapFields hd]; simp⟩

theorem next_rv_end {I a : Addr} {Q : Option Value → Shared → Prop} (hh : A.handled = none) (hit : IsRv s.heap I a (-1))
    (hQ : ∀ h', Heap.ExtBut I s.heap h' → Q none { s with heap := h' }) : wpAny (model prog w) A (pyNext (.ref I)) Q E s := by
  obtain ⟨o, ho, hc, hd⟩ := id hit
  unfold pyNext
  refine wpAny_bind (wpAny_attempt (wpAny_callSpecial?_slot (name := Str.ofString "__next__") hit.typeIs slot_rev_next
    (wpAny_call_entry slot_rev_next hit.typeIs entry_rev_next ?_ (args_rev_next _))))
  unfold Builtin.«reversed.__next__»
  refine wpAny_bind (wpAny_of_eq (a := (Value.ref I, [])) rfl ?_)
  try dsimp only
  refine wpAny_bind (wpAny_field ho hd (x := .ref a) rfl ?_)
  refine wpAny_bind (wpAny_field ho hd (x := rawInt (-1)) rfl ?_)
  show wpAny _ _ (if (-1 : Int) < 0 then _ else _) _ _ s
  rw [if_pos (by decide)]
  refine wpAny_bind (wpAny_rule ?_)
  refine wpAny_bind ?_
  show wpAny _ _ (setField (.ref I) 1 (rawInt (-1)) >>= fun _ => setField (.ref I) 0 .none) _ _ _
  refine wpAny_bind (wpAny_setField ho hd (by simp) ?_)
  have ho2 : ∃ o2, (s.heap.update I (Obj.mapFields (·.setIfInBounds 1 (rawInt (-1))))).get? I = some o2 ∧ ∃ vs, o2.data = .fields vs ∧ 0 < vs.size := by
    refine ⟨_, Heap.get?_update_self _ ho (Obj.isFreed_of_fields (Obj.data_mapFields hd _)), _, Obj.data_mapFields hd _, ?_⟩
    simp
  have e1 : Heap.ExtBut I s.heap (s.heap.update I (Obj.mapFields (·.setIfInBounds 1 (rawInt (-1))))) := (Heap.SameBut.update ..).extBut
  generalize s.heap.update I (Obj.mapFields (·.setIfInBounds 1 (rawInt (-1)))) = h1 at ho2 e1 ⊢
  obtain ⟨o2, ho2, vs2, hd2, hz2⟩ := ho2
  refine wpAny_setField ho2 hd2 hz2 ?_
  have e2 : Heap.ExtBut I s.heap (h1.update I (Obj.mapFields (·.setIfInBounds 0 .none))) := e1.trans (Heap.SameBut.update ..).extBut
  generalize h1.update I (Obj.mapFields (·.setIfInBounds 0 .none)) = h2 at e2 ⊢
  refine wpAny_bind ?_
  show wpAny _ _ (newExc (.type "StopIteration") [] >>= _) _ _ _
  refine wpAny_bind ?_
  simp only [newExc, newTuple]
  refine wpAny_bind (wpAny_newObj_type ?_ (by size_fits))
  refine wpAny_bind (m := firstArgMember _ _) (wpAny_of_eq (a := Value.none) (by first | rfl | (simp only [firstArgMember]; rfl)) ?_)
  refine wpAny_newObj_type ?_ (by size_fits)
  simp only [raiseNew]
  refine wpAny_bind (wpAny_handled ?_)
  first | rw [show A.in1.handled = none from hh] | rw [hh]
  refine wpAny_bind (wpAny_pure (wpAny_throw ?_))
  refine wpAny_bind (wpAny_isInstance (T := "StopIteration") (b := true) ⟨_, Heap.get?_push_size _ rfl, rfl⟩ isSubtype_stop ?_)
  exact wpAny_pure (hQ _ ((e2.push _).push _))

theorem iter_rv {I a : Addr} {i : Int} {Q : Value → Shared → Prop} (hit : IsRv s.heap I a i) (h : Q (.ref I) s) : wpAny (model prog w) A (pyIter (.ref I)) Q E s := by
  refine wpAny_pyIter_slot hit.typeIs slot_rev_iter (wpAny_call_entry slot_rev_iter hit.typeIs entry_rev_iter ?_ (args_rev_iter _))
  show wpAny _ _ (ret (.ref I)) _ _ s
  exact wpAny_pure ⟨_, rfl, "reversed", _, hit.typeIs, slot_rev_next.lookup, h⟩
end
theorem tupAt {h h' : Heap} {a : Addr} {its : Array Value} (x : IsTup h a its) (k : ∀ o, h.get? a = some o → h'.get? a = some o) : IsTup h' a its := let ⟨o, ho, r⟩ := x; ⟨o, k _ ho, r⟩
theorem walks_rv {prog : Program} {w : World} {A : Around} (hh : A.handled = none) (I a : Addr) (hne : a ≠ I) (items : Array Value) (hsz : items.size ≤ 1000000) :
    Walks prog w A I [I, a] [I] items.size (fun i v => i < items.size ∧ items[items.size - 1 - i]? = some v) (fun i h => i ≤ items.size ∧ IsRv h I a ((items.size : Int) - 1 - (i : Int)) ∧ IsTup h a items) where
  sub := fun b hb => by simp at hb; simp [hb]
  frame := fun _ _ _ x hk => ⟨x.1, x.2.1.at fun o e => hk I (by simp) o e, tupAt x.2.2 fun o e => hk a (by simp) o e⟩
  item := fun i s Q E hi x hQ => by
    have e : (items.size : Int) - 1 - (i : Int) = ((items.size - 1 - i : Nat) : Int) := by omega
    have hit := x.2.1
    rw [e] at hit
    refine next_rv_item hit x.2.2 (x := items[items.size - 1 - i]) (by simp) hsz fun h' tk hit' hs' => ?_
    refine hQ _ h' tk ⟨hi, by simp⟩ ⟨by omega, ?_, tupAt x.2.2 fun o eo => hs'.extBut _ _ hne eo⟩ fun b o hb e => hs'.extBut b o (fun h => hb (by simp [h])) e
    rw [show (items.size : Int) - 1 - ((i + 1 : Nat) : Int) = ((items.size - 1 - i : Nat) : Int) - 1 by omega]; exact hit'
  done := fun s Q E x hQ => by
    have hit := x.2.1
    rw [show (items.size : Int) - 1 - (items.size : Int) = -1 by omega] at hit
    exact next_rv_end hh hit fun h' he' => hQ h' s.toks fun b o hb e => he' b o (fun h => hb (by simp [h])) e
  self := fun _ _ _ _ x hQ => iter_rv x.2.1 hQ

theorem fill16 : (PySem.Challenge.rw_qd0006_01, Mine.hd.heap_39) = (PySem.Challenge.rw_qd0006_01, Mine.hd.heap_39) := by k_fill; rfl
section
variable {α : Type} {prog : Program} {w : World} {A : Around} {env : Env} {h₀ : Heap} {R : α → Heap → Value → Prop} {xs : List α}
/-- reversed(a tuple) as a source -/
theorem Ev.revS {func e : Expr} {pos : Pos} (hh : A.handled = Option.none) (st : TStab R) (hl : xs.length ≤ 1000000) (hf : Ev prog w A env h₀ func (IsV (.type "reversed"))) (h1 : Ev prog w A env h₀ e (IsT R xs))
    (he : starEach [e] env = [(false, eval e env)] := by rfl) (hcall : eval (.Call func [e] [] pos) env = (do callWith pos (← eval func env) [] (backTo pos (starEach [e] env)) (backToKw pos (keywordEach [] env))) := by rfl) :
    EvS prog w A env h₀ R xs.reverse (.Call func [e] [] pos) := fun s Q E hs k => by
  refine Call_ (hf s _ E hs fun v h' tk hk hv => ?_) hcall
  cases hv
  refine callWith_type1 ((EvL.one h1 (stab_t st xs) he) pos _ _ E (stays_trans hs hk) fun vs h2 tk2 hk2 hr => ?_) he rfl
  obtain ⟨v, rfl, a, us, rfl, ht, hr⟩ := hr
  have hlen : us.length = xs.length := hr.len
  refine call_rev ht (by simp; omega) fun tk3 => ?_
  have hfr : h2.get? h2.objs.size = none := Heap.get?_none_of_le (Nat.le_refl _)
  refine k _ (h2.push _) tk3 h2 (stays_trans hk hk2) (stays_push _ _) fun s' Q' E' e kk => ?_
  have hrv : IsRv s'.heap h2.objs.size a ((us.toArray.size : Int) - 1) := by rw [e]; exact ⟨_, Heap.get?_push_size _ rfl, rfl, rfl⟩
  have ht' : IsTup s'.heap a us.toArray := by rw [e]; exact ht.keeps (stays_push _ _)
  have hlt : a < h2.objs.size := by obtain ⟨o, ho, _⟩ := ht; exact Heap.lt_size ho
  have W := walks_rv (prog := prog) (w := w) hh h2.objs.size a (Nat.ne_of_lt hlt) us.toArray (by simp; omega)
  have hn : us.toArray.size = xs.reverse.length := by simp [hlen]
  rw [hn] at W
  refine iter_rv hrv (kk h2.objs.size _ _ _ s'.heap W ⟨Nat.zero_le _, ?_, ht'⟩ ?_ hfr ?_ ?_ ?_ ?_)
  · rw [← hn]; simpa using hrv
  · rw [e]; exact stays_refl _
  · intro b hb
    rw [e, Heap.size_push]
    rcases List.mem_cons.mp hb with rfl | hb
    · exact Nat.lt_succ_self _
    · rw [List.mem_singleton.mp hb]; exact Nat.lt_succ_of_lt hlt
  · rintro i h ⟨_, ⟨o, ho, hc, hd⟩, _⟩
    exact ⟨o, _, ho, hd⟩
  · intro i v hv
    rw [List.length_reverse] at hv
    have hi : i < xs.length := hv.1
    have hv' : us[xs.length - 1 - i]? = some v := by simpa [hlen] using hv.2
    obtain ⟨x, hx, hr'⟩ := hr.get' hv'
    exact ⟨x, by rw [List.getElem?_reverse hi]; exact hx, fun g t => st _ _ _ _ t hr'⟩
  · rintro i s' elts kk pos v Q' E' ⟨_, ⟨o, ho, hc, hd⟩, _⟩ hq
    exact go_plain ho hc (by decide) hq
end

def negatedD (d : Dm) : Dm := d.reverse.map fun p => (-p.2, -p.1)
theorem cl_negated {w : World} {A : Around} {mean : ExcName → Option Value} {mg mb : Str → Option Value} {h : Heap} {v : Value} {d : Dm} (c : Cx w mean mg mb h) (r : Rm A 2) (hl : d.length ≤ 1000) (hd : IsT IsP d h v) :
    Cl pg w A h (.ref 136) [v] (IsT IsP (negatedD d)) := by
  refine cl_return (prog := pg) (binds := [("d", v)]) c.X c.T.nolimit (by k_is) (by k_is) r.room (by rfl) (by rfl) (fun L h₁ hs hn hc => ?_) (by rfl) (by rfl) (by rfl)
  have c₁ := c.up hs
  have rd := fun env => r.deep (n := 1) env
  have nd := nmT (prog := pg) (w := w) (x := "d") tstab_p hn rfl (stab_t tstab_p d _ _ _ hs hd) rfl
  refine Ev.tupleOf tstab_p (by unfold negatedD; rw [List.length_map, List.length_reverse]; omega) (c₁.blt (ns_tuple w) bb_tuple (by decide) rfl rfl rfl rfl rfl) ?_ rfl rfl
  exact ev_compP0 (cl := []) (fun p => (-p.2, -p.1)) (rd _).hh (Ev.revS (rd _).hh tstab_p (by omega) (c₁.blt (ns_reversed w) bb_reversed (by decide) rfl rfl rfl rfl rfl) (nd.on (stays_refl _) ⟨rfl, rfl, rfl⟩)) tstab_p (by rw [List.length_reverse]; omega)
    (fun C z g hz hg lo hi => .pair (.neg (hi _)) (.neg (lo _))) (fun _ => rfl) (fun _ => rfl) (by decide) rfl rfl (by rfl) (by decide) (by rfl) (by decide) (fun _ => rfl)
end Mine
end
section -- Q17
open PySem PySem.W PyProof.Rows PySem.Calls
set_option maxRecDepth 100000
set_option maxHeartbeats 400000
set_option linter.unusedVariables false
namespace Mine
theorem fill17 : (PySem.Challenge.rw_qd0006_01, Mine.hd.heap_39) = (PySem.Challenge.rw_qd0006_01, Mine.hd.heap_39) := by k_fill; rfl

def IsS (x : Str) (_ : Heap) (v : Value) : Prop := ∃ t, v = .str x t
theorem stab_s {x : Str} : Stab (IsS x) := fun _ _ _ _ h => h
def sq (x y : Str) : Bool := x.cps.toList == y.cps.toList
section
variable {prog : Program} {w : World} {A : Around} {env : Env} {h₀ : Heap} {R : Heap → Value → Prop}
theorem Ev.ifExp {test body orelse : Expr} {pos : Pos} {b : Bool} (ht : EvT prog w A env h₀ test b) (h1 : b = true → Ev prog w A env h₀ body R) (h2 : b = false → Ev prog w A env h₀ orelse R) : Ev prog w A env h₀ (.IfExp test body orelse pos) R := fun s Q E hs k => by
  refine wpAny_IfExp (ht s _ E hs fun h' tk hk => ?_)
  cases b with
  | true => exact h1 rfl _ _ _ (stays_trans hs hk) fun v h2 tk2 hk2 hv => k v h2 tk2 (stays_trans hk hk2) hv
  | false => exact h2 rfl _ _ _ (stays_trans hs hk) fun v h2 tk2 hk2 hv => k v h2 tk2 (stays_trans hk hk2) hv
theorem EvT.eqS {x y : Str} {l r : Expr} {pos : Pos} (h1 : Ev prog w A env h₀ l (IsS x)) (h2 : Ev prog w A env h₀ r (IsS y)) (hm : behindInMarks .Eq r = false := by with_unfolding_all rfl) : EvT prog w A env h₀ (.Compare l [.Eq] [r] pos) (sq x y) :=
  .cmp h1 h2 stab_s (fun s u v Q E _ hx hy k => by obtain ⟨t, rfl⟩ := hx; obtain ⟨t2, rfl⟩ := hy; exact PySem.P.eq_str (k s.heap s.toks (stays_refl _))) hm
theorem Ev.strS {x : Str} {k : Nat} {pos : Pos} : Ev prog w A env h₀ (.Constant (.str x) k pos) (IsS x) := Ev.str
/-- a place of a written-out tuple -/
theorem Ev.place {e : Expr} {i : Nat} {k : Nat} {pos p : Pos} (hi : i ≤ 1000) (st : Stab R) (h1 : Ev prog w A env h₀ e (fun h u => ∃ a vs v, u = .ref a ∧ IsTup h a (List.toArray vs) ∧ vs[i]? = some v ∧ R h v))
    (hs : ∀ l k u, subscripted (.Constant (.int i) k p) false (.ref l) (.int i u) = operate [.ref l, .int i u] (getItem (.ref l) (.int i u)) := by intro _ _ _; with_unfolding_all rfl) : Ev prog w A env h₀ (.Subscript e (.Constant (.int i) k p) pos) R := fun s Q E hs' kk => by
  refine Subscript_ (h1 s _ E hs' fun v h' tk hk hv => Ev.lit (h₀ := h') _ _ E (stays_refl _) fun iv h2' tk2 hk2 hiv => ?_)
  obtain ⟨t, rfl⟩ := hiv
  obtain ⟨a, vs, v, rfl, ht, hx, hr⟩ := hv
  have hlt : i < vs.length := by obtain ⟨q, _⟩ := List.getElem?_eq_some_iff.mp hx; exact q
  exact item_tupleT (l := vs) (j := i) (ht.keeps hk2) (by omega) (by omega) (seqIdx_pos (by omega) (by omega)) hx (kk _ h2' tk2 (stays_trans hk hk2) (st _ _ _ hk2 hr)) (hs _ _ _)
end

def IsLit (sg : Str) (k : Int) (h : Heap) (u : Value) : Prop := ∃ a t1 t2 t3, u = .ref a ∧ IsTup h a #[.int 3 t1, .str sg t2, .int k t3]
theorem stab_lit {sg : Str} {k : Int} : Stab (IsLit sg k) := fun _ _ _ hs ⟨a, t1, t2, t3, e, h⟩ => ⟨a, t1, t2, t3, e, h.keeps hs⟩
def struckD (sg : Str) (k : Int) (d : Dm) : Dm := if sq sg "<=" then upToD d k else if sq sg ">=" then fromOnD d k else if sq sg "=" then meetD d [(k, k)] else withoutD d k
theorem cl_struck {w : World} {A : Around} {mean : ExcName → Option Value} {mg mb : Str → Option Value} {h : Heap} {lv v : Value} {d : Dm} {sg : Str} {k : Int} (c : Cx w mean mg mb h) (r : Rm A 5) (hl : d.length ≤ 1000) (hlit : IsLit sg k h lv) (hd : IsT IsP d h v) :
    Cl pg w A h (.ref 143) [lv, v] (IsT IsP (struckD sg k d)) := by
  intro s Q E hs₀ kk
  refine enterC (prog := pg) (binds := [("literal", lv), ("d", v)]) hs₀ c.X c.T.nolimit (by k_is) (by k_is) r.room (by rfl) (by rfl) (fun L h₁ tk hL hs hn _ _ => ?_) (by rfl) (by rfl) (by rfl)
  have rd := fun env => r.deep (n := 4) env
  have hl1 : IsLit sg k h₁ lv := stab_lit _ _ _ (stays_trans hs₀ hs) hlit
  have nl : Nm pg w h₁ L "literal" (IsLit sg k) := ⟨fun hg ⟨e1, e2, e3⟩ => (Ev.loc (e1 ▸ hn.keeps hg) rfl e2 e3 rfl).mono' fun _ _ hg' e => by cases e; exact stab_lit _ _ _ (stays_trans hg hg') hl1⟩
  refine wpAny_execs_cons (exec_tup2 (R2 := fun _ v1 v2 => IsS sg h₁ v1 ∧ IsI k h₁ v2) (rd _).hh (.tuple (R3 := fun _ vs => ∃ v1 v2, vs = [v1, v2] ∧ IsS sg h₁ v1 ∧ IsI k h₁ v2)
    (EvL.two (R1 := fun _ v => IsS sg h₁ v) (R2 := fun _ v => IsI k h₁ v) (.place (i := 1) (by decide) (fun _ _ _ _ h => h) ((nl.on (stays_refl _) ⟨rfl, rfl, rfl⟩).mono fun g u ⟨a, t1, t2, t3, e, ht⟩ => ⟨a, _, _, e, ht, rfl, t2, rfl⟩))
      (.place (i := 2) (by decide) (fun _ _ _ _ h => h) ((nl.on (stays_refl _) ⟨rfl, rfl, rfl⟩).mono fun g u ⟨a, t1, t2, t3, e, ht⟩ => ⟨a, _, _, e, ht, rfl, t3, rfl⟩)) (fun _ _ _ _ h => h) (fun _ _ _ _ h => h)) (by show 2 ≤ 1000; decide) (fun g vs ⟨_, _, e, _⟩ => by rw [e]; rfl)
    (fun g g' vs a hg ⟨v1, v2, e, h1, h2⟩ ht => ⟨a, v1, v2, rfl, by rw [e] at ht; exact ht, h1, h2⟩)) hn rfl rfl rfl (by rfl) (by rfl) ?_)
  rintro v1 v2 h2 h3 tk3 hk2 ⟨⟨ts, rfl⟩, ti, rfl⟩ hk3 hn3
  have st3 : s.heap.StaysIn h3 := fun b o eb => hk3 b o (fun q => by have q' : b = L := q; rw [q', hL] at eb; cases eb) (hk2 _ _ (hs _ _ eb))
  have c3 := (c.up hs₀).up st3
  have hd3 := stab_t tstab_p d _ _ _ (stays_trans hs₀ st3) hd
  have ns : Nm pg w h3 L "sign" (IsS sg) := ⟨fun hg ⟨e1, e2, e3⟩ => (Ev.loc (e1 ▸ hn3.keeps hg) rfl e2 e3 rfl).mono fun _ _ e => ⟨ts, e⟩⟩
  have nk := nmI (prog := pg) (w := w) (x := "k") hn3 rfl rfl
  have nd := nmT (prog := pg) (w := w) (x := "d") tstab_p hn3 rfl hd3 rfl
  refine wpAny_execs_cons (exec_if (.eqS (ns.on (stays_refl _) ⟨rfl, rfl, rfl⟩) .strS) fun h4 tk4 k4 => ⟨fun hb => ?_, fun hb => ?_⟩)
  · refine wpAny_execs_cons (exec_ret (R := IsT IsP (upToD d k)) (.callF (f := 93) ((c3.up k4).fn (by k_is)) rfl ((c3.up k4).glob (by k_is) rfl rfl rfl rfl) (.two (nd.on k4 ⟨rfl, rfl, rfl⟩) (nk.on k4 ⟨rfl, rfl, rfl⟩) (stab_t tstab_p d) stab_i) (fun g vs hg hv => ?_)) fun v h5 tk5 k5 hv => ?_)
    · obtain ⟨_, _, rfl, e1, u, rfl⟩ := hv
      exact cl_up_to ((c3.up k4).up hg) ((rd _).less (by decide)) hl e1
    · refine kk v h5 tk5 (stays_trans st3 (stays_trans k4 k5)) ?_
      unfold struckD; rw [if_pos hb]; exact hv
  refine wpAny_execs_nil (wpAny_execs_cons (exec_if (.eqS (ns.on k4 ⟨rfl, rfl, rfl⟩) .strS) fun h5 tk5 k5 => ⟨fun hb2 => ?_, fun hb2 => ?_⟩))
  · have k45 := stays_trans k4 k5
    refine wpAny_execs_cons (exec_ret (R := IsT IsP (fromOnD d k)) (.callF (f := 98) ((c3.up k45).fn (by k_is)) rfl ((c3.up k45).glob (by k_is) rfl rfl rfl rfl) (.two (nd.on k45 ⟨rfl, rfl, rfl⟩) (nk.on k45 ⟨rfl, rfl, rfl⟩) (stab_t tstab_p d) stab_i) (fun g vs hg hv => ?_)) fun v h6 tk6 k6 hv => ?_)
    · obtain ⟨_, _, rfl, e1, u, rfl⟩ := hv
      exact cl_from_on ((c3.up k45).up hg) ((rd _).less (by decide)) hl e1
    · refine kk v h6 tk6 (stays_trans st3 (stays_trans k45 k6)) ?_
      unfold struckD; rw [if_neg (by rw [hb]; simp), if_pos hb2]; exact hv
  have k45 := stays_trans k4 k5
  have c5 := c3.up k45
  refine wpAny_execs_nil (wpAny_execs_cons (exec_ret (R := IsT IsP (if sq sg "=" then meetD d [(k, k)] else withoutD d k)) (.ifExp (b := sq sg "=") (.eqS (ns.on k45 ⟨rfl, rfl, rfl⟩) .strS) (fun hb3 => ?_) (fun hb3 => ?_)) fun v h6 tk6 k6 hv => ?_))
  · rw [if_pos hb3]
    refine .callF (f := 112) (c5.fn (by k_is)) rfl (c5.glob (by k_is) rfl rfl rfl rfl) (EvL.two (R2 := IsT IsP [(k, k)]) (nd.on k45 ⟨rfl, rfl, rfl⟩) (.tuple (.one (.pair (nk.on k45 ⟨rfl, rfl, rfl⟩) (nk.on k45 ⟨rfl, rfl, rfl⟩)) (tstab_p.stab _)) (by show 1 ≤ 1000; decide) (fun g vs ⟨_, e, _⟩ => by rw [e]; rfl)
      (fun g g' vs a hg ⟨v, e, hv⟩ ht => ⟨a, vs, rfl, ht, by rw [e]; exact ⟨tstab_p _ _ _ _ (.of hg) hv, trivial⟩⟩)) (stab_t tstab_p d) (stab_t tstab_p _)) (fun g vs hg hv => ?_)
    obtain ⟨_, _, rfl, e1, e2⟩ := hv
    exact cl_meet (c5.up hg) ((rd _).less (by decide)) e1 e2 hl (by show 1 ≤ 1000; decide)
  · rw [if_neg (by rw [hb3]; simp)]
    refine .callF (f := 105) (c5.fn (by k_is)) rfl (c5.glob (by k_is) rfl rfl rfl rfl) (.two (nd.on k45 ⟨rfl, rfl, rfl⟩) (nk.on k45 ⟨rfl, rfl, rfl⟩) (stab_t tstab_p d) stab_i) (fun g vs hg hv => ?_)
    obtain ⟨_, _, rfl, e1, u, rfl⟩ := hv
    exact cl_without (c5.up hg) ((rd _).less (by decide)) hl e1
  · refine kk v h6 tk6 (stays_trans st3 (stays_trans k45 k6)) ?_
    unfold struckD; rw [if_neg (by rw [hb]; simp), if_neg (by rw [hb2]; simp)]; exact hv
end Mine
end
section -- Q18
open PySem PySem.W PyProof.Rows PySem.Calls
set_option maxRecDepth 100000
set_option maxHeartbeats 400000
set_option linter.unusedVariables false
namespace Mine
open PySem.SeqAt
theorem fill18 : (PySem.Challenge.rw_qd0006_01, Mine.hd.heap_39) = (PySem.Challenge.rw_qd0006_01, Mine.hd.heap_39) := by k_fill; rfl

theorem eqAt_pair {A : Around} {s : Shared} {x y : Int × Int} {v u : Value} (hu : A.units < cLine) (h1 : IsP x s.heap v) (h2 : IsP y s.heap u) : EqAt A s v u (decide (x = y)) := by
  obtain ⟨a, t1, t2, rfl, ha⟩ := h1
  obtain ⟨b, u1, u2, rfl, hb⟩ := h2
  by_cases hne : a = b
  · subst hne
    have e : x = y := by
      obtain ⟨o, ho, hc, n, hd⟩ := ha
      obtain ⟨o', ho', hc', n', hd'⟩ := hb
      rw [ho] at ho'; cases ho'
      rw [hd] at hd'
      injection hd' with e1 _
      have e2 := congrArg Array.toList e1
      simp only [List.cons.injEq, Value.int.injEq] at e2
      exact Prod.ext e2.1.1 e2.2.1.1
    rw [decide_eq_true e]
    exact EqAt.same _
  · have key := RcAt.tuples (A := A) (s := s) (e := fun j => if j = 0 then x.1 == y.1 else x.2 == y.2) (show s.heap.IsTuple a #[.int x.1 t1, .int x.2 t2] from ha) (show s.heap.IsTuple b #[.int y.1 u1, .int y.2 u2] from hb) hu (fun j h1 h2 => by
      match j, h1 with
      | 0, _ => exact EqAt.int_int _ _ _ _
      | 1, _ => exact EqAt.int_int _ _ _ _
      | j + 2, h => exact absurd (show j + 2 < 2 from h) (by omega))
    have e : ((List.range (min (#[Value.int x.1 t1, Value.int x.2 t2] : Array Value).size (#[Value.int y.1 u1, Value.int y.2 u2] : Array Value).size)).all (fun j => if j = 0 then x.1 == y.1 else x.2 == y.2) && (#[Value.int x.1 t1, Value.int x.2 t2] : Array Value).size == (#[Value.int y.1 u1, Value.int y.2 u2] : Array Value).size) = decide (x = y) := by
      have : decide (x = y) = ((x.1 == y.1) && (x.2 == y.2)) := by
        rw [Bool.eq_iff_iff]; simp [Prod.ext_iff]
      rw [this]
      simp [List.range_succ]
    rw [e] at key
    exact EqAt.of_refs hne key
theorem all_eq {α : Type} [DecidableEq α] {xs ys : List α} (d : α) (hl : xs.length = ys.length) : (List.range xs.length).all (fun j => decide (xs.getD j d = ys.getD j d)) = decide (xs = ys) := by
  rw [Bool.eq_iff_iff, List.all_eq_true, decide_eq_true_eq]
  constructor
  · intro h
    refine List.ext_getElem hl fun i h1 h2 => ?_
    have := h i (by simpa using h1)
    simpa [h1, h2] using this
  · rintro rfl x _; simp
theorem all_eq_min {α : Type} [DecidableEq α] {xs ys : List α} (d : α) : ((List.range (min xs.length ys.length)).all (fun j => decide (xs.getD j d = ys.getD j d)) && xs.length == ys.length) = decide (xs = ys) := by
  by_cases hl : xs.length = ys.length
  · rw [← hl, Nat.min_self, all_eq d hl]; simp
  · have h1 : (xs.length == ys.length) = false := by simpa using hl
    have h2 : decide (xs = ys) = false := by
      rw [decide_eq_false_iff_not]; rintro rfl; exact hl rfl
    rw [h1, h2, Bool.and_false]
section
variable {A : Around} {s : Shared} {xs ys : Dm} {ns ms : List Int} {v u : Value}
theorem items_at {α : Type} {RR : α → Heap → Value → Prop} {h : Heap} {xs : List α} {vs : List Value} (d : α) (k : All2 RR h xs vs) (j : Nat) (hj : j < vs.toArray.size) : RR (xs.getD j d) h vs.toArray[j] := by
  have hj' : j < vs.length := by simpa using hj
  obtain ⟨x, hx, hr⟩ := k.get' (show vs[j]? = some vs[j] by simp [hj'])
  have e : xs.getD j d = x := by rw [List.getD_eq_getElem?_getD, hx]; rfl
  rw [e]; simpa using hr
theorem rcT (hu : A.units + 2 < cLine) (h1 : IsT IsP xs s.heap v) (h2 : IsT IsP ys s.heap u) : RcAt A s v u (decide (xs = ys)) ∧ RcNeAt A s v u (!decide (xs = ys)) := by
  obtain ⟨a, vs, rfl, ha, ra⟩ := h1
  obtain ⟨b, us, rfl, hb, rb⟩ := h2
  have he : ∀ j (h1 : j < vs.toArray.size) (h2 : j < us.toArray.size), EqAt A.in1 s vs.toArray[j] us.toArray[j] (decide (xs.getD j (0, 0) = ys.getD j (0, 0))) := fun j h1 h2 =>
    eqAt_pair (by show A.units + 1 < cLine; omega) (items_at _ ra j h1) (items_at _ rb j h2)
  have k1 := RcAt.tuples (show s.heap.IsTuple a vs.toArray from ha) (show s.heap.IsTuple b us.toArray from hb) (by omega) he
  have k2 := RcNeAt.tuples (show s.heap.IsTuple a vs.toArray from ha) (show s.heap.IsTuple b us.toArray from hb) (by omega) he
  have e : ((List.range (min vs.toArray.size us.toArray.size)).all (fun j => decide (xs.getD j (0, 0) = ys.getD j (0, 0))) && vs.toArray.size == us.toArray.size) = decide (xs = ys) := by
    rw [List.size_toArray, List.size_toArray, ra.len, rb.len]; exact all_eq_min _
  rw [e] at k1 k2
  exact ⟨k1, k2⟩
theorem rcLP (hu : A.units + 2 < cLine) (h1 : IsL IsP xs s.heap v) (h2 : IsL IsP ys s.heap u) : RcAt A s v u (decide (xs = ys)) ∧ RcNeAt A s v u (!decide (xs = ys)) := by
  obtain ⟨a, vs, rfl, ha, ra⟩ := h1
  obtain ⟨b, us, rfl, hb, rb⟩ := h2
  by_cases hl : xs.length = ys.length
  · have he : ∀ j (h1 : j < vs.toArray.size) (h2 : j < us.toArray.size), EqAt A.in1 s vs.toArray[j] us.toArray[j] (decide (xs.getD j (0, 0) = ys.getD j (0, 0))) := fun j h1 h2 =>
      eqAt_pair (by show A.units + 1 < cLine; omega) (items_at _ ra j h1) (items_at _ rb j h2)
    have hs : vs.toArray.size = us.toArray.size := by rw [List.size_toArray, List.size_toArray, ra.len, rb.len, hl]
    have k1 := RcAt.lists ha hb hs (by omega) he
    have k2 := RcNeAt.lists ha hb hs (by omega) he
    rw [List.size_toArray, ra.len, all_eq _ hl] at k1 k2
    exact ⟨k1, k2⟩
  · have hs : (vs.toArray.size != us.toArray.size) = true := by rw [List.size_toArray, List.size_toArray, ra.len, rb.len]; simpa using hl
    have e : decide (xs = ys) = false := by rw [decide_eq_false_iff_not]; rintro rfl; exact hl rfl
    rw [e]
    exact ⟨RcAt.lists_lengths ha hb hs (by omega), RcNeAt.lists_lengths ha hb hs (by omega)⟩
theorem rcLI (hu : A.units + 2 < cLine) (h1 : IsL IsI ns s.heap v) (h2 : IsL IsI ms s.heap u) : RcAt A s v u (decide (ns = ms)) := by
  obtain ⟨a, vs, rfl, ha, ra⟩ := h1
  obtain ⟨b, us, rfl, hb, rb⟩ := h2
  by_cases hl : ns.length = ms.length
  · have he : ∀ j (h1 : j < vs.toArray.size) (h2 : j < us.toArray.size), EqAt A.in1 s vs.toArray[j] us.toArray[j] (decide (ns.getD j 0 = ms.getD j 0)) := fun j h1 h2 => by
      obtain ⟨t, e1⟩ := items_at 0 ra j h1
      obtain ⟨t2, e2⟩ := items_at 0 rb j h2
      rw [e1, e2]
      exact EqAt.int_int _ _ _ _
    have hs : vs.toArray.size = us.toArray.size := by rw [List.size_toArray, List.size_toArray, ra.len, rb.len, hl]
    have k1 := RcAt.lists ha hb hs (by omega) he
    rw [List.size_toArray, ra.len, all_eq _ hl] at k1
    exact k1
  · have hs : (vs.toArray.size != us.toArray.size) = true := by rw [List.size_toArray, List.size_toArray, ra.len, rb.len]; simpa using hl
    have e : decide (ns = ms) = false := by rw [decide_eq_false_iff_not]; rintro rfl; exact hl rfl
    rw [e]
    exact RcAt.lists_lengths ha hb hs (by omega)
end
section
variable {prog : Program} {w : World} {A : Around} {env : Env} {h₀ : Heap} {xs ys : Dm} {ns ms : List Int} {l r : Expr} {pos : Pos}
theorem EvT.eqT (hu : A.units + 2 < cLine) (h1 : Ev prog w A env h₀ l (IsT IsP xs)) (h2 : Ev prog w A env h₀ r (IsT IsP ys)) (hm : behindInMarks .Eq r = false := by with_unfolding_all rfl) : EvT prog w A env h₀ (.Compare l [.Eq] [r] pos) (decide (xs = ys)) :=
  .cmp h1 h2 (stab_t tstab_p xs) (fun s x y Q E _ hx hy k => (rcT hu hx hy).1 _ _ _ _ (k s.heap s.toks (stays_refl _))) hm
theorem EvT.neT (hu : A.units + 2 < cLine) (h1 : Ev prog w A env h₀ l (IsT IsP xs)) (h2 : Ev prog w A env h₀ r (IsT IsP ys)) (hm : behindInMarks .NotEq r = false := by with_unfolding_all rfl) : EvT prog w A env h₀ (.Compare l [.NotEq] [r] pos) (!decide (xs = ys)) :=
  .cmp h1 h2 (stab_t tstab_p xs) (fun s x y Q E _ hx hy k => (rcT hu hx hy).2 _ _ _ _ (k s.heap s.toks (stays_refl _))) hm
theorem EvT.neL (hu : A.units + 2 < cLine) (h1 : Ev prog w A env h₀ l (IsL IsP xs)) (h2 : Ev prog w A env h₀ r (IsL IsP ys)) (hm : behindInMarks .NotEq r = false := by with_unfolding_all rfl) : EvT prog w A env h₀ (.Compare l [.NotEq] [r] pos) (!decide (xs = ys)) :=
  .cmp h1 h2 (stab_l tstab_p xs) (fun s x y Q E _ hx hy k => (rcLP hu hx hy).2 _ _ _ _ (k s.heap s.toks (stays_refl _))) hm
abbrev IsB (b : Bool) : Heap → Value → Prop := IsV (.bool b)
/-- a comparison as a value -/
theorem Ev.cmp {op : CmpOp} {b : Bool} {R1 R2 : Heap → Value → Prop} (h1 : Ev prog w A env h₀ l R1) (h2 : Ev prog w A env h₀ r R2) (st : Stab R1)
    (hop : ∀ (s : Shared) (x y : Value) (Q : Value → Shared → Prop) (E : Value → Shared → Prop), h₀.StaysIn s.heap → R1 s.heap x → R2 s.heap y → (∀ h' tk, s.heap.StaysIn h' → Q (.bool b) { s with heap := h', toks := tk }) → wpAny (model prog w) A (compareOp op x y) Q E s)
    (hm : behindInMarks op r = false := by with_unfolding_all rfl) : Ev prog w A env h₀ (.Compare l [op] [r] pos) (IsB b) := fun s Q E hs k => by
  refine wpAny_Compare1 (h1 s _ E hs fun a ha tk1 hk1 r1 => h2 _ _ E (stays_trans hs hk1) fun c hb tk2 hk2 r2 => ?_) hm
  exact hop _ a c _ E (stays_trans hs (stays_trans hk1 hk2)) (st _ _ _ hk2 r1) r2 fun h' tk hk => k _ h' tk (stays_trans hk1 (stays_trans hk2 hk)) rfl
theorem Ev.eqT (hu : A.units + 2 < cLine) (h1 : Ev prog w A env h₀ l (IsT IsP xs)) (h2 : Ev prog w A env h₀ r (IsT IsP ys)) (hm : behindInMarks .Eq r = false := by with_unfolding_all rfl) : Ev prog w A env h₀ (.Compare l [.Eq] [r] pos) (IsB (decide (xs = ys))) :=
  .cmp h1 h2 (stab_t tstab_p xs) (fun s x y Q E _ hx hy k => (rcT hu hx hy).1 _ _ _ _ (k s.heap s.toks (stays_refl _))) hm
theorem Ev.eqI (hu : A.units + 2 < cLine) (h1 : Ev prog w A env h₀ l (IsL IsI ns)) (h2 : Ev prog w A env h₀ r (IsL IsI ms)) (hm : behindInMarks .Eq r = false := by with_unfolding_all rfl) : Ev prog w A env h₀ (.Compare l [.Eq] [r] pos) (IsB (decide (ns = ms))) :=
  .cmp h1 h2 (stab_l tstab_i ns) (fun s x y Q E _ hx hy k => (rcLI hu hx hy) _ _ _ _ (k s.heap s.toks (stays_refl _))) hm
theorem Ev.gtI {a b : Int} (h1 : Ev prog w A env h₀ l (IsI a)) (h2 : Ev prog w A env h₀ r (IsI b)) (hm : behindInMarks .Gt r = false := by with_unfolding_all rfl) : Ev prog w A env h₀ (.Compare l [.Gt] [r] pos) (IsB (decide (b < a))) :=
  .cmp h1 h2 stab_i (fun s x y Q E _ hx hy k => by obtain ⟨t, rfl⟩ := hx; obtain ⟨u, rfl⟩ := hy; exact PyProof.Rows.gt_int (k s.heap s.toks (stays_refl _))) hm
theorem EvT.isNone {x : Expr} {v : Value} {kk : Nat} {p : Pos} {R : Heap → Value → Prop} {b : Bool} (h1 : Ev prog w A env h₀ x R) (hb : ∀ h v, R h v → (v == Value.none) = b) (st : Stab R) : EvT prog w A env h₀ (.Compare x [.Is] [.Constant .none kk p] pos) b :=
  .cmp h1 .noneE st (fun s x y Q E _ hx hy k => by cases hy; exact PyProof.Rows.is_none_gen (by rw [hb _ _ hx]; exact k s.heap s.toks (stays_refl _))) (by with_unfolding_all rfl)
theorem Ev.and2 {a b : Expr} {p q : Bool} (h1 : Ev prog w A env h₀ a (IsB p)) (h2 : p = true → Ev prog w A env h₀ b (IsB q)) : Ev prog w A env h₀ (.BoolOp .And [a, b] pos) (IsB (p && q)) := fun s Q E hs k => by
  refine BoolOp_and (h1 s _ E hs fun v h' tk hk hv => ?_)
  cases hv
  refine wpAny_truthy_bool ?_
  cases p with
  | false => exact k _ h' tk hk rfl
  | true => exact BoolOp_one (h2 rfl _ _ _ (stays_trans hs hk) fun v h2 tk2 hk2 hv => k v h2 tk2 (stays_trans hk hk2) hv)
theorem Ev.and3 {a b c : Expr} {p q r : Bool} (h1 : Ev prog w A env h₀ a (IsB p)) (h2 : p = true → Ev prog w A env h₀ b (IsB q)) (h3 : p = true → q = true → Ev prog w A env h₀ c (IsB r)) : Ev prog w A env h₀ (.BoolOp .And [a, b, c] pos) (IsB (p && (q && r))) := fun s Q E hs k => by
  refine BoolOp_and (h1 s _ E hs fun v h' tk hk hv => ?_)
  cases hv
  refine wpAny_truthy_bool ?_
  cases p with
  | false => exact k _ h' tk hk rfl
  | true => exact Ev.and2 (h2 rfl) (h3 rfl) _ _ _ (stays_trans hs hk) fun v h2 tk2 hk2 hv => k v h2 tk2 (stays_trans hk hk2) hv
theorem EvT.and3 {a b c : Expr} {p q r : Bool} (h1 : EvT prog w A env h₀ a p) (h2 : p = true → EvT prog w A env h₀ b q) (h3 : p = true → q = true → EvT prog w A env h₀ c r) : EvT prog w A env h₀ (.BoolOp .And [a, b, c] pos) (p && (q && r)) := fun s Q E hs k => by
  refine isTrue_and (h1 s _ E hs fun h' tk hk => ?_)
  cases p with
  | false => exact k h' tk hk
  | true =>
    refine isTrue_and (h2 rfl _ _ E (stays_trans hs hk) fun h2' tk2 hk2 => ?_)
    cases q with
    | false => exact k h2' tk2 (stays_trans hk hk2)
    | true =>
      refine isTrue_and (h3 rfl rfl _ _ E (stays_trans hs (stays_trans hk hk2)) fun h3' tk3 hk3 => ?_)
      cases r with
      | false => exact k h3' tk3 (stays_trans hk (stays_trans hk2 hk3))
      | true => exact isTrue_and_nil (k h3' tk3 (stays_trans hk (stays_trans hk2 hk3)))
end
end Mine
end
section -- Q19
open PySem PySem.W PyProof.Rows PySem.Calls
set_option maxRecDepth 100000
set_option maxHeartbeats 400000
set_option linter.unusedVariables false
namespace Mine
theorem fill19 : (PySem.Challenge.rw_qd0006_01, Mine.hd.heap_39) = (PySem.Challenge.rw_qd0006_01, Mine.hd.heap_39) := by k_fill; rfl

section
variable {prog : Program} {w : World} {A : Around} {env : Env} {h₀ : Heap}
theorem Ev.mul {a b : Int} {l r : Expr} {pos : Pos} (hm : IntMulOk a b) (h1 : Ev prog w A env h₀ l (IsI a)) (h2 : Ev prog w A env h₀ r (IsI b)) : Ev prog w A env h₀ (.BinOp l .Mult r pos) (IsI (a * b)) :=
  h1.bin h2 stab_i fun s x y Q E _ hx hy k => by
    obtain ⟨t, rfl⟩ := hx; obtain ⟨u, rfl⟩ := hy
    exact PyProof.Rows.mul_int (k _ s.heap _ (stays_refl _) ⟨_, rfl⟩) hm
theorem Ev.mod {a b : Int} {l r : Expr} {pos : Pos} (hb : b ≠ 0) (h1 : Ev prog w A env h₀ l (IsI a)) (h2 : Ev prog w A env h₀ r (IsI b)) : Ev prog w A env h₀ (.BinOp l .Mod r pos) (IsI (a.fmod b)) :=
  h1.bin h2 stab_i fun s x y Q E _ hx hy k => by
    obtain ⟨t, rfl⟩ := hx; obtain ⟨u, rfl⟩ := hy
    exact PyProof.Rows.mod_int' hb (k _ s.heap _ (stays_refl _) ⟨_, rfl⟩)
theorem Ev.pow10 {n : Nat} {l r : Expr} {pos : Pos} (hn : 1 ≤ n) (hn2 : n ≤ 1000) (h1 : Ev prog w A env h₀ l (IsI 10)) (h2 : Ev prog w A env h₀ r (IsI n)) : Ev prog w A env h₀ (.BinOp l .Pow r pos) (IsI (10 ^ n)) :=
  h1.bin h2 stab_i fun s x y Q E _ hx hy k => by
    obtain ⟨t, rfl⟩ := hx; obtain ⟨u, rfl⟩ := hy
    refine PySem.AutoIntOps.pow_4 (by omega) (by simp; omega) (by decide) (by decide) ?_ ?_
    · have e : Builtin.Int.intBits 10 = 4 := by decide
      rw [e]
      unfold Builtin.Int.intTooBig bitsLine
      rw [decide_eq_true_eq]; omega
    · have e : ((n : Int)).toNat = n := Int.toNat_natCast n
      rw [e]
      exact k _ s.heap _ (stays_refl _) ⟨_, rfl⟩
theorem Ev.dict {c : Addr} {kvs : List (Str × Value)} {key : Str} {v : Value} {e : Expr} {k : Nat} {pos p : Pos} (h1 : Ev prog w A env h₀ e (IsV (.ref c))) (hd : h₀.DictOf (PySem.strKind prog w) c kvs) (hv : valueAt kvs key = some v)
    (hs : ∀ t, subscripted (.Constant (.str key) k p) false (.ref c) (.str key t) = operate [.ref c, .str key t] (getItem (.ref c) (.str key t)) := by intro _; with_unfolding_all rfl) : Ev prog w A env h₀ (.Subscript e (.Constant (.str key) k p) pos) (IsV v) := fun s Q E hs' kk => by
  refine Subscript_ (h1 s _ E hs' fun o h' tk hk ho => Ev.strS (h₀ := h') _ _ E (stays_refl _) fun iv h2' tk2 hk2 hiv => ?_)
  cases ho
  obtain ⟨t, rfl⟩ := hiv
  have hd2 := hd.keep (fun b o e => hk2 _ _ (hk _ _ (hs' b o e)))
  exact tail_any hd2.typeIs slot_dict_getitem.lookup (wpAny_getItem_of (PySem.strKind_is prog w key t) hd2.mapOf hv (kk _ h2' _ (stays_trans hk hk2) rfl)) (hs t)
end

/-- the law's own dict: script cells (the list at ce), and how far it has been read -/
def Can (w : World) (h : Heap) (c ce : Addr) (f : Nat) : Prop := ∃ ns n t, h.DictOf (PySem.strKind pg w) c [("cells", .ref ce), ("at", .int (n : Nat) t)] ∧ IsL IsI ns h (.ref ce) ∧ ns.length ≤ 100 ∧ n + f ≤ 100000
theorem Can.st {w : World} {h h' : Heap} {c ce : Addr} {f : Nat} (x : Can w h c ce f) (k : h.StaysIn h') : Can w h' c ce f :=
  let ⟨ns, n, t, d, l, r⟩ := x; ⟨ns, n, t, d.keep k, stab_l tstab_i ns _ _ _ k l, r⟩
theorem Can.less {w : World} {h : Heap} {c ce : Addr} {f g : Nat} (x : Can w h c ce f) (k : g ≤ f) : Can w h c ce g :=
  let ⟨ns, n, t, d, l, r1, r2⟩ := x; ⟨ns, n, t, d, l, r1, by omega⟩
theorem Can.obj {w : World} {h : Heap} {c ce : Addr} {f : Nat} (x : Can w h c ce f) : ∃ o es ep, h.get? c = some o ∧ o.data = .dict es ep := let ⟨_, _, _, ⟨o, es, ep, ho, _, hd, _⟩, _⟩ := x; ⟨o, es, ep, ho, hd⟩
theorem Can.lst {w : World} {h : Heap} {c ce : Addr} {f : Nat} (x : Can w h c ce f) : ∃ o items n, h.get? ce = some o ∧ o.data = .seq items n := let ⟨_, _, _, _, ⟨_, _, e, ⟨o, ho, _, n, hd⟩, _⟩, _⟩ := x; by cases e; exact ⟨o, _, n, ho, hd⟩
theorem Can.kw {w : World} {h h' : Heap} {c ce : Addr} {f : Nat} {W : List Addr} (x : Can w h c ce f) (k : Kw W h h') (hc : c ∉ W) (hce : ce ∉ W) : Can w h' c ce f := by
  obtain ⟨ns, n, t, ⟨o, es, ep, ho, r⟩, ⟨a, vs, e, ⟨ol, hol, hcl, m, hdl⟩, ra⟩, r2⟩ := x
  cases e
  exact ⟨ns, n, t, ⟨o, es, ep, k _ _ hc ho, r⟩, ⟨_, vs, rfl, ⟨ol, k _ _ hce hol, hcl, m, hdl⟩, ints_all2 (all2_ints ra)⟩, r2⟩

/-- the law's bound -/
@[irreducible] def FAR : Int := 10 ^ 45
theorem cl_far {w : World} {A : Around} {mean : ExcName → Option Value} {mg mb : Str → Option Value} {h : Heap} (c : Cx w mean mg mb h) (r : Rm A 1) : Cl pg w A h (.ref 150) [] (IsI FAR) := by
  unfold FAR
  exact cl_return (prog := pg) (binds := []) c.X c.T.nolimit (by k_is) (by k_is) r.room (by rfl) (by rfl) (fun L h₁ hs hn hc => .pow10 (n := 45) (by decide) (by decide) .lit .lit) (by rfl) (by rfl) (by rfl)

theorem draw_spec {w : World} {A : Around} {mean : ExcName → Option Value} {mg mb : Str → Option Value} {g : Heap} {s : Shared} {ca ce : Addr} {f : Nat} {many : Int} {tm : Tok} {Q : Value → Shared → Prop} {E : Value → Shared → Prop}
    (c : Cx w mean mg mb g) (hg : g.StaysIn s.heap) (hgc : g.get? ca = none) (r : Rm A 1) (hc : Can w s.heap ca ce (f + 1)) (hm : 0 < many)
    (k : ∀ h' tk z t, Kw [ca] s.heap h' → Can w h' ca ce f → 0 ≤ z → z < many → Q (.int z t) { s with heap := h', toks := tk }) :
    wpAny (model pg w) A (call (.ref 157) [.ref ca, .int many tm]) Q E s := by
  refine enterC (prog := pg) (binds := [("can", .ref ca), ("many", .int many tm)]) hg c.X c.T.nolimit (by k_is) (by k_is) r.room (by rfl) (by rfl) (fun L h₁ tk hL hs hn _ _ => ?_) (by rfl) (by rfl) (by rfl)
  have rd := fun env => r.deep (n := 0) env
  obtain ⟨ns, n, t, hd, hl, hlen, hf⟩ := hc.st hs
  have hcL : ca ≠ L := fun q => by obtain ⟨o, _, _, ho, _⟩ := hc.obj; rw [q, hL] at ho; cases ho
  have ncan : ∀ {h : Heap} {m : Str → Option Value}, h.Ns L m → m "can" = some (.ref ca) → Nm pg w h L "can" (IsV (.ref ca)) := fun hn hm => nmV hn hm rfl
  -- at = can['at']
  refine wpAny_execs_cons (exec_asn (.dict ((ncan hn rfl).on (stays_refl _) ⟨rfl, rfl, rfl⟩) hd (v := .int n t) rfl) hn rfl rfl (by rfl) fun v h2 h3 tk3 k1 k2 k3 k4 => ?_)
  cases k2
  have kw3 : ∀ b o, b ≠ L → h₁.get? b = some o → h3.get? b = some o := fun b o hb e => k3.extBut _ _ hb (k1 _ _ e)
  have hd3 : h3.DictOf (PySem.strKind pg w) ca [("cells", .ref ce), ("at", .int (n : Nat) t)] := hd.at fun o e => kw3 _ o hcL e
  generalize hm3 : (fun y => if y = Str.ofString "at" then some (Value.int n t) else bindL _ _ _ y) = m3 at k4
  have ma : m3 "at" = some (.int n t) := by rw [← hm3]; simp
  have mc : m3 "can" = some (.ref ca) := by rw [← hm3]; rfl
  have mm : m3 "many" = some (.int many tm) := by rw [← hm3]; rfl
  -- can['at'] = at + 1
  refine wpAny_execs_cons (wpAny_Assign_Subscript ?_ rfl)
  refine Ev.run (R := IsI ((n : Int) + 1)) (.add ((nmI k4 ma rfl).on (stays_refl _) ⟨rfl, rfl, rfl⟩) .lit) fun v h4 tk4 hk4 hv => ?_
  obtain ⟨t4, rfl⟩ := hv
  refine Ev.run ((ncan k4 mc).on hk4 ⟨rfl, rfl, rfl⟩) fun ov h5 tk5 hk5 hov => ?_
  cases hov
  refine Ev.run (R := IsS "at") .strS fun iv h6 tk6 hk6 hiv => ?_
  obtain ⟨t6, rfl⟩ := hiv
  have hk46 := stays_trans hk4 (stays_trans hk5 hk6)
  refine wpAny_setItem_pairs (PySem.strKind_is pg w "at" t6) (hd3.keep hk46) (fun h7 hd7 hs7 => ?_) (by rw [sizeLine_eq]; show 2 ≤ 16777216; decide)
  have hd7' : h7.DictOf (PySem.strKind pg w) ca [("cells", .ref ce), ("at", .int ((n + 1 : Nat) : Int) t4)] := hd7
  have hn7 : h7.Ns L m3 := (k4.keeps hk46).at' fun o eo => hs7.extBut _ o (Ne.symm hcL) eo
  have kw7 : ∀ b o, b ≠ L → b ≠ ca → h₁.get? b = some o → h7.get? b = some o := fun b o b1 b2 e => hs7.extBut _ _ b2 (hk46 _ _ (kw3 b o b1 e))
  have hl7 : IsL IsI ns h7 (.ref ce) := by
    obtain ⟨a, vs, e, ⟨ol, hol, hcl, m, hdl⟩, ra⟩ := hl
    refine ⟨a, vs, e, ⟨ol, kw7 _ _ (fun q => ?_) (fun q => ?_) hol, hcl, m, hdl⟩, ints_all2 (all2_ints ra)⟩
    · obtain ⟨o, _, _, ho, hd', _⟩ := id hn
      rw [q, ho] at hol; cases hol; rw [hd'] at hdl; cases hdl
    · obtain ⟨o, _, _, ho, hd'⟩ := (hc.st hs).obj
      rw [q, ho] at hol; cases hol; rw [hd'] at hdl; cases hdl
  have fin : ∀ {h' tk z t}, h7.StaysIn h' → 0 ≤ z → z < many → Q (.int z t) { s with heap := h', toks := tk } := fun hk h0 h1 =>
    k _ _ _ _ (fun b o nb e => hk _ _ (kw7 b o (fun q => by rw [q, hL] at e; cases e) (fun q => nb (by simp [q])) (hs _ _ e))) ⟨ns, n + 1, t4, hd7'.keep hk, stab_l tstab_i ns _ _ _ hk hl7, hlen, by omega⟩ h0 h1
  have c7 : Cx w mean mg mb h7 := c.up fun b o e => by
    have e1 := hg _ _ e
    exact kw7 b o (fun q => by rw [q, hL] at e1; cases e1) (fun q => by rw [q, hgc] at e; cases e) (hs _ _ e1)
  have nat := nmI (prog := pg) (w := w) (x := "at") hn7 ma rfl
  have nmany := nmI (prog := pg) (w := w) (x := "many") hn7 mm rfl
  have nc7 := ncan hn7 mc
  have cells : ∀ {A : Around} {env : Env} {h : Heap} {k : Nat} {p p' p2 : Pos}, h7.StaysIn h → Lc env L "can" → Ev pg w A env h (.Subscript (.Name "can" p2) (.Constant (.str "cells") k p) p') (IsL IsI ns) := fun hh hlc =>
    (Ev.dict (nc7.on hh hlc) (hd7'.keep hh) (v := .ref ce) rfl (by intro _; with_unfolding_all rfl)).mono' fun g' u hg' e => by cases e; exact stab_l tstab_i ns _ _ _ (stays_trans hh hg') hl7
  have hnz : many ≠ 0 := by omega
  refine wpAny_execs_cons (exec_if (b := decide ((n : Int) < ns.length)) (.lt (nat.on (stays_refl _) ⟨rfl, rfl, rfl⟩) (.len tstab_i (by omega) (c7.blt (ns_len w) bb_len (by decide) rfl rfl rfl rfl rfl) (cells (stays_refl _) ⟨rfl, rfl, rfl⟩))) fun h8 tk8 hk8 => ⟨fun hb => ?_, fun hb => ?_⟩)
  · simp only [decide_eq_true_eq] at hb
    have hlt : n < ns.length := by omega
    obtain ⟨x, hx⟩ : ∃ x, ns[n]? = some x := ⟨_, List.getElem?_eq_getElem hlt⟩
    refine wpAny_execs_cons (exec_ret (R := IsI (x.fmod many)) (.mod hnz (.itemL tstab_i (by omega) (cells hk8 ⟨rfl, rfl, rfl⟩) (nat.on hk8 ⟨rfl, rfl, rfl⟩) (.inl ⟨by omega, by simpa using hx⟩)) (nmany.on hk8 ⟨rfl, rfl, rfl⟩)) fun v h9 tk9 hk9 hv => ?_)
    obtain ⟨tz, rfl⟩ := hv
    exact fin (stays_trans hk8 hk9) (Int.fmod_nonneg_of_pos _ hm) (Int.fmod_lt_of_pos _ hm)
  · have c8 := c7.up hk8
    refine wpAny_execs_nil (wpAny_execs_cons (exec_ret (.mod hnz (.mod (by decide) (.add (.add (.add (.mul (.of_left (intBits_le_64 ?_ ?_)) (.mul (.of_left (by decide)) .lit (nat.on hk8 ⟨rfl, rfl, rfl⟩)) (nat.on hk8 ⟨rfl, rfl, rfl⟩)) (.mul (.of_left (by decide)) .lit (nat.on hk8 ⟨rfl, rfl, rfl⟩)))
      (.mul (.of_left (by decide)) .lit (.len tstab_i (by omega) (c8.blt (ns_len w) bb_len (by decide) rfl rfl rfl rfl rfl) (cells hk8 ⟨rfl, rfl, rfl⟩)))) .lit) .lit) (nmany.on hk8 ⟨rfl, rfl, rfl⟩)) fun v h9 tk9 hk9 hv => ?_))
    · omega
    · omega
    · obtain ⟨tz, rfl⟩ := hv
      exact fin (stays_trans hk8 hk9) (Int.fmod_nonneg_of_pos _ hm) (Int.fmod_lt_of_pos _ hm)
end Mine
end
section -- Q20
open PySem PySem.W PyProof.Rows PySem.Calls
set_option maxRecDepth 100000
set_option maxHeartbeats 400000
set_option linter.unusedVariables false
namespace Mine
theorem fill20 : (PySem.Challenge.rw_qd0006_01, Mine.hd.heap_39) = (PySem.Challenge.rw_qd0006_01, Mine.hd.heap_39) := by k_fill; rfl

/-- an evaluation that may draw k times -/
def Ew (w : World) (A : Around) (env : Env) (ca ce : Addr) (h₀ : Heap) (k : Nat) (e : Expr) (P : Value → Prop) : Prop :=
  ∀ (f : Nat) (s : Shared) (Q : Value → Shared → Prop) (E : Value → Shared → Prop), Kw [ca] h₀ s.heap → Can w s.heap ca ce (f + k) →
    (∀ v h' tk, Kw [ca] s.heap h' → Can w h' ca ce f → P v → Q v { s with heap := h', toks := tk }) → wpAny (model pg w) A (eval e env) Q E s
def EwL (w : World) (A : Around) (env : Env) (ca ce : Addr) (h₀ : Heap) (k : Nat) (es : List Expr) (P : List Value → Prop) : Prop :=
  ∀ (pos : Pos) (f : Nat) (s : Shared) (Q : List Value → Shared → Prop) (E : Value → Shared → Prop), Kw [ca] h₀ s.heap → Can w s.heap ca ce (f + k) →
    (∀ vs h' tk, Kw [ca] s.heap h' → Can w h' ca ce f → P vs → Q vs { s with heap := h', toks := tk }) → wpAny (model pg w) A (spliced (backTo pos (starEach es env))) Q E s
/-- an int with this property -/
def InI (P : Int → Prop) (v : Value) : Prop := ∃ z t, v = .int z t ∧ P z
abbrev InZ (m : Int) : Value → Prop := InI fun z => 0 ≤ z ∧ z < m
section
variable {w : World} {A : Around} {env : Env} {ca ce : Addr} {h₀ : Heap} {P P' : Value → Prop}
theorem Ew.of {e : Expr} {R : Heap → Value → Prop} (h : ∀ g, Kw [ca] h₀ g → Ev pg w A env g e R) (hr : ∀ g v, R g v → P v) : Ew w A env ca ce h₀ 0 e P := fun f s Q E hs hc k =>
  h s.heap hs s Q E (stays_refl _) fun v h' tk hk hv => k v h' tk (.of hk) (hc.st hk) (hr _ _ hv)
theorem Ew.ofI {e : Expr} {z : Int} {Z : Int → Prop} (h : ∀ g, Kw [ca] h₀ g → Ev pg w A env g e (IsI z)) (hz : Z z) : Ew w A env ca ce h₀ 0 e (InI Z) := .of h fun _ _ ⟨t, e⟩ => ⟨z, t, e, hz⟩
theorem Ew.mono {e : Expr} {k : Nat} (h : Ew w A env ca ce h₀ k e P) (hp : ∀ v, P v → P' v) : Ew w A env ca ce h₀ k e P' := fun f s Q E hs hc kk => h f s Q E hs hc fun v h' tk h1 h2 h3 => kk v h' tk h1 h2 (hp v h3)
theorem Ew.draw {mean : ExcName → Option Value} {mg mb : Str → Option Value} {g : Heap} {many : Int} {func a1 a2 : Expr} {pos : Pos} (c : Cx w mean mg mb g) (hg : g.StaysIn h₀) (hgc : g.get? ca = none) (r : Rm A 1) (hm : 0 < many)
    (hf : ∀ h, Kw [ca] h₀ h → Ev pg w A env h func (IsV (.ref 157))) (h1 : ∀ h, Kw [ca] h₀ h → Ev pg w A env h a1 (IsV (.ref ca))) (h2 : ∀ h, Kw [ca] h₀ h → Ev pg w A env h a2 (IsI many))
    (he : starEach [a1, a2] env = [(false, eval a1 env), (false, eval a2 env)] := by rfl)
    (hcall : eval (.Call func [a1, a2] [] pos) env = (do callWith pos (← eval func env) [] (backTo pos (starEach [a1, a2] env)) (backToKw pos (keywordEach [] env))) := by rfl) :
    Ew w A env ca ce h₀ 1 (.Call func [a1, a2] [] pos) (InZ many) := fun f s Q E hs hc k => by
  have gs : ∀ {h}, Kw [ca] h₀ h → g.StaysIn h := fun kw => kw.stays hg (by simp [hgc])
  obtain ⟨o, fd, ho, hdat⟩ : ∃ o fd, g.get? 157 = some o ∧ o.data = .func fd := ⟨_, _, c.fn (by k_is), rfl⟩
  refine Call_ (hf s.heap hs s _ E (stays_refl _) fun v h' tk hk hv => ?_) hcall
  cases hv
  have e2 : starEach [a2] env = [(false, eval a2 env)] := by
    have : starEach [a1, a2] env = (starEach [a1, a2] env).head?.toList ++ starEach [a2] env := by cases a1 <;> rfl
    rw [he] at this; simpa using this.symm
  have hs' : Kw [ca] h₀ h' := hs.trans (.of hk)
  refine callWith_def hdat ((EvL.two (h1 _ hs') (h2 _ hs') stab_v stab_i he) pos _ _ E (stays_refl _) fun vs h2 tk2 hk2 hr => ⟨hk2 _ _ (gs hs' _ _ ho), ?_⟩) (by rw [he, e2])
  obtain ⟨_, _, rfl, e1, t, rfl⟩ := hr
  cases e1
  refine draw_spec c (stays_trans (gs hs') hk2) hgc r ((hc.st hk).st hk2) hm fun h3 tk3 z t3 k3 c3 z0 z1 => ?_
  exact k _ h3 tk3 ((Kw.of (stays_trans hk hk2)).trans k3) c3 ⟨z, t3, rfl, z0, z1⟩
theorem Ew.add {k1 k2 : Nat} {l r : Expr} {pos : Pos} {X Y Z : Int → Prop} (h1 : Ew w A env ca ce h₀ k1 l (InI X)) (h2 : Ew w A env ca ce h₀ k2 r (InI Y)) (hz : ∀ a b, X a → Y b → Z (a + b)) : Ew w A env ca ce h₀ (k1 + k2) (.BinOp l .Add r pos) (InI Z) := fun f s Q E hs hc k => by
  refine wpAny_BinOp (h1 (f + k2) s _ E hs (by rw [show f + k2 + k1 = f + (k1 + k2) by omega]; exact hc) fun v h' tk hk hc' hv => ?_)
  refine h2 f _ _ E (hs.trans hk) hc' fun u h2' tk2 hk2 hc2 hu => ?_
  obtain ⟨a, t, rfl, ha⟩ := hv
  obtain ⟨b, t2, rfl, hb⟩ := hu
  exact PyProof.Rows.add_int (k _ h2' _ (hk.trans hk2) hc2 ⟨_, _, rfl, hz a b ha hb⟩)
theorem Ew.sub {k1 k2 : Nat} {l r : Expr} {pos : Pos} {X Y Z : Int → Prop} (h1 : Ew w A env ca ce h₀ k1 l (InI X)) (h2 : Ew w A env ca ce h₀ k2 r (InI Y)) (hz : ∀ a b, X a → Y b → Z (a - b)) : Ew w A env ca ce h₀ (k1 + k2) (.BinOp l .Sub r pos) (InI Z) := fun f s Q E hs hc k => by
  refine wpAny_BinOp (h1 (f + k2) s _ E hs (by rw [show f + k2 + k1 = f + (k1 + k2) by omega]; exact hc) fun v h' tk hk hc' hv => ?_)
  refine h2 f _ _ E (hs.trans hk) hc' fun u h2' tk2 hk2 hc2 hu => ?_
  obtain ⟨a, t, rfl, ha⟩ := hv
  obtain ⟨b, t2, rfl, hb⟩ := hu
  exact PyProof.Rows.sub_int (k _ h2' _ (hk.trans hk2) hc2 ⟨_, _, rfl, hz a b ha hb⟩)
theorem EwL.nil : EwL w A env ca ce h₀ 0 [] (fun vs => vs = []) := fun pos f s Q E _ hc k => args_nil (k _ s.heap s.toks (.refl _ _) hc rfl)
theorem EwL.cons {k1 k2 : Nat} {e : Expr} {rest : List Expr} {PL : List Value → Prop} (h1 : Ew w A env ca ce h₀ k1 e P) (h2 : EwL w A env ca ce h₀ k2 rest PL) (he : starEach (e :: rest) env = (false, eval e env) :: starEach rest env) :
    EwL w A env ca ce h₀ (k1 + k2) (e :: rest) (fun vs => ∃ v us, vs = v :: us ∧ P v ∧ PL us) := fun pos f s Q E hs hc k => by
  refine args_cons (h1 (f + k2) s _ E hs (by rw [show f + k2 + k1 = f + (k1 + k2) by omega]; exact hc) fun v h' tk hk hc' hv => ?_) he
  refine h2 pos f _ _ E (hs.trans hk) hc' fun us h2' tk2 hk2 hc2 hu => ?_
  exact k _ h2' tk2 (hk.trans hk2) hc2 ⟨v, us, rfl, hv, hu⟩
/-- all alike: so many of them -/
def AllV (n : Nat) (P : Value → Prop) (vs : List Value) : Prop := vs.length = n ∧ ∀ v ∈ vs, P v
theorem EwL.nil' : EwL w A env ca ce h₀ 0 [] (AllV 0 P) := fun pos f s Q E _ hc k => args_nil (k _ s.heap s.toks (.refl _ _) hc ⟨rfl, by simp⟩)
theorem EwL.cons' {k1 k2 n : Nat} {e : Expr} {rest : List Expr} (h1 : Ew w A env ca ce h₀ k1 e P) (h2 : EwL w A env ca ce h₀ k2 rest (AllV n P)) (he : starEach (e :: rest) env = (false, eval e env) :: starEach rest env := by rfl) :
    EwL w A env ca ce h₀ (k1 + k2) (e :: rest) (AllV (n + 1) P) := fun pos f s Q E hs hc k =>
  EwL.cons h1 h2 he pos f s Q E hs hc fun vs h' tk a b ⟨v, us, e, hv, hl, hu⟩ => k vs h' tk a b ⟨by rw [e]; simp [hl], fun u hu' => by
    rw [e] at hu'
    rcases List.mem_cons.mp hu' with rfl | hu'
    · exact hv
    · exact hu u hu'⟩
/-- a written menu, and a draw for the place -/
theorem Ew.menu {k1 k2 n : Nat} {es : List Expr} {ei : Expr} {kk : Nat} {tp pos : Pos} (hn : n ≤ 1000) (h1 : EwL w A env ca ce h₀ k1 es (AllV n P)) (h2 : Ew w A env ca ce h₀ k2 ei (InZ n))
    (hs : ∀ l k u, subscripted ei false (.ref l) (.int k u) = operate [.ref l, .int k u] (getItem (.ref l) (.int k u)) := by intro _ _ _; with_unfolding_all rfl) : Ew w A env ca ce h₀ (k1 + k2) (.Subscript (.Tuple es kk tp) ei pos) P := fun f s Q E hs0 hc k => by
  refine Subscript_ ?_
  refine Tuple_ (h1 tp (f + k2) s _ E hs0 (by rw [show f + k2 + k1 = f + (k1 + k2) by omega]; exact hc) fun vs h' tk hk hc' hv => ?_)
  refine wpAny_newObj_type ?_ (by have := hv.1; show vs.toArray.size ≤ sizeLine; rw [List.size_toArray, this, sizeLine_eq]; omega)
  have hk' : Kw [ca] s.heap (h'.push { cls := .type "tuple", data := .seq vs.toArray }) := hk.trans (.of (stays_push _ _))
  refine h2 f _ _ E (hs0.trans hk') (hc'.st (stays_push _ _)) fun iv h2' tk2 hk2 hc2 hiv => ?_
  obtain ⟨z, t, rfl, z0, z1⟩ := hiv
  have hz : z.toNat < vs.length := by rw [hv.1]; omega
  obtain ⟨v, hvz⟩ : ∃ v, vs[z.toNat]? = some v := ⟨_, List.getElem?_eq_getElem hz⟩
  have hne : h'.objs.size ∉ [ca] := fun q => by
    obtain ⟨o, _, _, ho, _⟩ := hc'.obj
    rw [← List.mem_singleton.mp q] at ho
    exact absurd (Heap.lt_size ho) (Nat.lt_irrefl _)
  have ht : IsTup h2' h'.objs.size vs.toArray := ⟨_, hk2 _ _ hne (Heap.get?_push_size _ rfl), rfl, 0, rfl⟩
  exact item_tupleT (j := z.toNat) ht (by omega) (by have := hv.1; omega) (seqIdx_pos z0 (by have := hv.1; omega)) hvz (k v h2' tk2 (hk'.trans hk2) hc2 (hv.2 v (List.mem_of_getElem? hvz))) (hs _ _ _)
end
end Mine
end
section -- Q21
open PySem PySem.W PyProof.Rows PySem.Calls
set_option maxRecDepth 100000
set_option maxHeartbeats 400000
set_option linter.unusedVariables false
namespace Mine
theorem fill21 : (PySem.Challenge.rw_qd0006_01, Mine.hd.heap_39) = (PySem.Challenge.rw_qd0006_01, Mine.hd.heap_39) := by k_fill; rfl

/-- a range object -/
def IsRg (a b c : Int) (h : Heap) (v : Value) : Prop := ∃ r t u x, v = .ref r ∧ IsRange h r a b c t u x
theorem stab_rg {a b c : Int} : Stab (IsRg a b c) := fun _ _ _ hs ⟨r, t, u, x, e, k⟩ => ⟨r, t, u, x, e, hs _ _ k⟩
def rngL (a c : Int) (n : Nat) : List Int := (List.range n).map fun (i : Nat) => a + (i : Int) * c
section
variable {prog : Program} {w : World} {A : Around} {env : Env} {h₀ : Heap}
theorem src_rg {a b c : Int} {n : Nat} {h : Heap} {v : Value} (hh : A.handled = none) (hn : Builtin.Range.rangeSize a b c = n) (x : IsRg a b c h v) : Src prog w A IsI (rngL a c n) h v := by
  obtain ⟨r, t, u, y, rfl, hr⟩ := x
  intro s Q E hs k
  have hr' : IsRange s.heap r a b c t u y := hs _ _ hr
  have hlen : (rngL a c n).length = n := by unfold rngL; simp
  have hP : ∀ i (v : Value), i < n → (∃ t, v = .int (a + (i : Int) * c) t) → ∃ x, (rngL a c n)[i]? = some x ∧ ∀ g, TL h g → IsI x g v := fun i v hi ⟨t, e⟩ => ⟨a + (i : Int) * c, by unfold rngL; simp [hi], fun _ _ => ⟨t, e⟩⟩
  cases hsm : Builtin.Range.small a b c with
  | true =>
    refine wpAny_pyIter_range hr' hsm ?_
    have W0 := Walks.range (prog := prog) (w := w) hh s.heap.objs.size a c n
    have W : Walks prog w A s.heap.objs.size [s.heap.objs.size] [s.heap.objs.size] (rngL a c n).length (fun i v => i < n ∧ ∃ t, v = .int (a + (i : Int) * c) t) (fun i h => IsRangeIter h s.heap.objs.size (a + (i : Nat) * c) ((n : Int) - (i : Nat)) c) := by
      rw [hlen]
      exact ⟨W0.sub, W0.frame, fun i s Q E hi st hQ => W0.item i s Q E hi st fun v h' tk p => hQ v h' tk ⟨hi, p⟩, W0.done, W0.self⟩
    refine k _ _ _ _ _ W ?_ (stays_push _ _) (Heap.get?_none_of_le (Nat.le_refl _)) ?_ ?_ ?_ (fun i v hv => hP i v hv.1 hv.2) ?_
    · have e : (s.heap.push { cls := .type "range_iterator", data := .fields #[rawInt a, rawInt (Builtin.Range.rangeSize a b c), rawInt c] }).get? s.heap.objs.size = some { cls := .type "range_iterator", data := .fields #[rawInt a, rawInt (Builtin.Range.rangeSize a b c), rawInt c] } := Heap.get?_push_size _ rfl
      rw [hn] at e ⊢
      show _ = _
      rw [e]
      simp
    · intro b hb
      rw [List.mem_singleton.mp hb, Heap.size_push]; exact Nat.lt_succ_self _
    · intro i h st; exact ⟨_, _, st, rfl⟩
    · intro b hb; exact .inl (List.mem_singleton.mp hb)
    · intro i s' elts kk pos v Q' E' st hq
      exact go_plain st rfl (by decide) hq
  | false =>
    refine wpAny_pyIter_longrange hr' hsm ?_
    have W0 := Walks.longrange (prog := prog) (w := w) hh s.heap.objs.size a c n
    have W : Walks prog w A s.heap.objs.size [s.heap.objs.size] [s.heap.objs.size] (rngL a c n).length (fun i v => i < n ∧ ∃ t, v = .int (a + (i : Int) * c) t) (fun i h => IsLongIter h s.heap.objs.size (a + (i : Nat) * c) ((n : Int) - (i : Nat)) c) := by
      rw [hlen]
      exact ⟨W0.sub, W0.frame, fun i s Q E hi st hQ => W0.item i s Q E hi st fun v h' tk p => hQ v h' tk ⟨hi, p⟩, W0.done, W0.self⟩
    refine k _ _ _ _ _ W ?_ (stays_push _ _) (Heap.get?_none_of_le (Nat.le_refl _)) ?_ ?_ ?_ (fun i v hv => hP i v hv.1 hv.2) ?_
    · have e : (s.heap.push { cls := .type "longrange_iterator", data := .fields #[rawInt a, rawInt (Builtin.Range.rangeSize a b c), rawInt c] }).get? s.heap.objs.size = some { cls := .type "longrange_iterator", data := .fields #[rawInt a, rawInt (Builtin.Range.rangeSize a b c), rawInt c] } := Heap.get?_push_size _ rfl
      rw [hn] at e ⊢
      show _ = _
      rw [e]
      simp
    · intro b hb
      rw [List.mem_singleton.mp hb, Heap.size_push]; exact Nat.lt_succ_self _
    · intro i h st; exact ⟨_, _, st, rfl⟩
    · intro b hb; exact .inl (List.mem_singleton.mp hb)
    · intro i s' elts kk pos v Q' E' st hq
      exact go_plain st rfl (by decide) hq
theorem Ev.range1 {b : Int} {func e : Expr} {pos : Pos} (hf : Ev prog w A env h₀ func (IsV (.type "range"))) (h1 : Ev prog w A env h₀ e (IsI b))
    (he : starEach [e] env = [(false, eval e env)] := by rfl) (hcall : eval (.Call func [e] [] pos) env = (do callWith pos (← eval func env) [] (backTo pos (starEach [e] env)) (backToKw pos (keywordEach [] env))) := by rfl) :
    Ev prog w A env h₀ (.Call func [e] [] pos) (IsRg 0 b 1) := by
  refine hf.callT (.one h1 stab_i he) (fun s vs Q E _ hr k => ?_) he rfl hcall
  obtain ⟨v, rfl, t, rfl⟩ := hr
  exact call_range_1 (k _ _ _ (stays_push _ _) ⟨_, _, _, _, rfl, Heap.get?_push_size _ rfl⟩)
theorem Ev.range2 {a b : Int} {func e e' : Expr} {pos : Pos} (hf : Ev prog w A env h₀ func (IsV (.type "range"))) (h1 : Ev prog w A env h₀ e (IsI a)) (h2 : Ev prog w A env h₀ e' (IsI b))
    (he : starEach [e, e'] env = [(false, eval e env), (false, eval e' env)] := by rfl) (hcall : eval (.Call func [e, e'] [] pos) env = (do callWith pos (← eval func env) [] (backTo pos (starEach [e, e'] env)) (backToKw pos (keywordEach [] env))) := by rfl) :
    Ev prog w A env h₀ (.Call func [e, e'] [] pos) (IsRg a b 1) := by
  have e2 : starEach [e'] env = [(false, eval e' env)] := by
    have : starEach [e, e'] env = (starEach [e, e'] env).head?.toList ++ starEach [e'] env := by cases e <;> rfl
    rw [he] at this; simpa using this.symm
  refine hf.callT (.two h1 h2 stab_i stab_i he) (fun s vs Q E _ hr k => ?_) (by rw [he, e2]) (by rw [e2]; rfl) hcall
  obtain ⟨_, _, rfl, ⟨t, rfl⟩, t2, rfl⟩ := hr
  exact call_range_2 (k _ _ _ (stays_push _ _) ⟨_, _, _, _, rfl, Heap.get?_push_size _ rfl⟩)
theorem rg_ne {a b c : Int} {h : Heap} {v : Value} {x : Addr} {o : Obj} (r : IsRg a b c h v) (ho : h.get? x = some o) (hd : ∀ fs, o.data ≠ .fields fs) : v ≠ .ref x := by
  rintro rfl
  obtain ⟨y, t, u, z, e, hr⟩ := r
  cases e
  rw [hr] at ho; cases ho
  exact hd _ rfl
end
theorem rangeSize1 (n : Nat) : Builtin.Range.rangeSize 0 n 1 = n := by
  unfold Builtin.Range.rangeSize
  rw [if_pos (by decide)]
  split <;> omega
theorem rangeSize_up {a b : Int} (h : a ≤ b) : Builtin.Range.rangeSize a b 1 = ((b - a).toNat : Nat) := by
  unfold Builtin.Range.rangeSize
  rw [if_pos (by decide)]
  split <;> omega
end Mine
end
section -- Q22
open PySem PySem.W PyProof.Rows PySem.Calls
set_option maxRecDepth 100000
set_option maxHeartbeats 400000
set_option linter.unusedVariables false
namespace Mine
theorem fill22 : (PySem.Challenge.rw_qd0006_01, Mine.hd.heap_39) = (PySem.Challenge.rw_qd0006_01, Mine.hd.heap_39) := by k_fill; rfl

/-- ranges ascending, apart, within a bound -/
def Cn (B : Int) (d : Dm) : Prop := (∀ p ∈ d, p.1 ≤ p.2 ∧ -B ≤ p.1 ∧ p.2 ≤ B) ∧ d.Pairwise (fun p q => p.2 + 1 < q.1)
abbrev B0 : Int := 100000000000000000000000000000000
abbrev T30 : Int := 1000000000000000000000000000000
theorem t30 : T30 = 1000000000000000000000000000000 := rfl
theorem b0 : B0 = 100000000000000000000000000000000 := rfl
theorem Cn.snoc {B : Int} {d : Dm} {p : Int × Int} (h : Cn B d) (h1 : p.1 ≤ p.2 ∧ -B ≤ p.1 ∧ p.2 ≤ B) (h2 : ∀ q ∈ d, q.2 + 1 < p.1) : Cn B (d ++ [p]) := by
  refine ⟨fun q hq => ?_, ?_⟩
  · rcases List.mem_append.mp hq with hq | hq
    · exact h.1 q hq
    · rw [List.mem_singleton.mp hq]; exact h1
  · rw [List.pairwise_append]
    exact ⟨h.2, by simp, fun a ha b hb => by rw [List.mem_singleton.mp hb]; exact h2 a ha⟩
theorem Can.lk {w : World} {h h' : Heap} {c ce L : Addr} {f : Nat} (x : Can w h c ce f) (k : Lk L h h') (hc : c ≠ L) : Can w h' c ce f := by
  obtain ⟨ns, n, t, ⟨o, es, ep, ho, hx, hd, r⟩, ⟨a, vs, e, hl, ra⟩, r2⟩ := x
  exact ⟨ns, n, t, ⟨o, es, ep, k.dl _ _ _ _ hc ho hd, hx, hd, r⟩, ⟨a, vs, e, k.isList hl, ints_all2 (all2_ints ra)⟩, r2⟩

section
variable {w : World} {A : Around} {env : Env}
/-- a name given what a drawing evaluation gives -/
theorem exec_asnw {x : Str} {px pos : Pos} {e : Expr} {s : Shared} {m : Str → Option Value} {ca ce : Addr} {f k : Nat} {P : Value → Prop} {Q : Flow → Shared → Prop} {E : Value → Shared → Prop} (he : Ew w A env ca ce s.heap k e P) (hc : Can w s.heap ca ce (f + k)) (hn : s.heap.Ns env.locals m) (hcL : ca ≠ env.locals)
    (hl : env.kindOf x = some .local) (hk : env.scope.kind = .function) (hs : swapsWith e (some (.Name x px)) pos.line env = pure false)
    (kk : ∀ v h₁ h' tk, Kw [ca] s.heap h₁ → Can w h₁ ca ce f → P v → Heap.SameBut env.locals h₁ h' → h'.Ns env.locals (fun y => if y = x then some v else m y) → Q .next { s with heap := h', toks := tk }) :
    wpAny (model pg w) A (exec (.Assign [.Name x px] e pos) env) Q E s := by
  refine wpAny_Assign_Name (he f s _ E (.refl _ _) hc fun v h₁ tk₁ hk₁ hc₁ hv => ?_) hs
  have hn₁ : h₁.Ns env.locals m := hn.at' fun o e => hk₁ _ o (by simpa using Ne.symm hcL) e
  refine wpAny_storeName_local hl hn₁ (fun h' hn' hs' => kk v h₁ h' _ hk₁ hc₁ hv hs' hn') ?_
  rw [hk]; rfl
/-- _law_draw(can, N) -/
theorem Ew.drawN {mean : ExcName → Option Value} {mg mb : Str → Option Value} {g h₀ : Heap} {ca ce L : Addr} {m : Str → Option Value} {N : Int} {p1 p2 p3 p4 : Pos} {kk : Nat} (c : Cx w mean mg mb g) (hg : g.StaysIn h₀) (hgc : g.get? ca = none) (r : Rm A 1) (hN : 0 < N) (hn : h₀.Ns L m) (hm : m "can" = some (.ref ca)) (hcL : ca ≠ L)
    (e1 : env.locals = L) (e2 : env.globals = mainGlobals) (e3 : env.scope.kind = .function) (e4 : env.kindOf "can" = some .local) (e5 : env.kindOf "_law_draw" = some .globalImplicit)
    (he : starEach [.Name "can" p2, .Constant (.int N) kk p3] env = [(false, eval (.Name "can" p2) env), (false, eval (.Constant (.int N) kk p3) env)])
    (hcall : eval (.Call (.Name "_law_draw" p1) [.Name "can" p2, .Constant (.int N) kk p3] [] p4) env = (do callWith p4 (← eval (.Name "_law_draw" p1) env) [] (backTo p4 (starEach [.Name "can" p2, .Constant (.int N) kk p3] env)) (backToKw p4 (keywordEach [] env)))) :
    Ew w A env ca ce h₀ 1 (.Call (.Name "_law_draw" p1) [.Name "can" p2, .Constant (.int N) kk p3] [] p4) (InZ N) :=
  .draw c hg hgc r hN (fun h kw => (c.up (kw.stays hg (by simp [hgc]))).glob (by k_is) e2 e3 e5 rfl) (fun h kw => (nmV (hn.at' fun o e => kw _ o (by simpa using Ne.symm hcL) e) hm rfl).on (stays_refl _) ⟨e1, e3, e4⟩) (fun h kw => .lit) he hcall
theorem exec_tup2w {prog : Program} {x y : Str} {px py tp pos : Pos} {k : Nat} {e : Expr} {s : Shared} {m : Str → Option Value} {Q : Flow → Shared → Prop} {E : Value → Shared → Prop} (hh : A.handled = none)
    (he : wpAny (model prog w) A (eval e env) (fun v s' => ∃ a v1 v2, v = .ref a ∧ IsTup s'.heap a #[v1, v2] ∧ s'.heap.Ns env.locals m ∧
      (∀ h' tk, (∀ b o, b ≠ env.locals → s'.heap.get? b = some o → h'.get? b = some o) → h'.Ns env.locals (fun z => if z = x then some v1 else if z = y then some v2 else m z) → Q .next { s' with heap := h', toks := tk })) E s)
    (hx : env.kindOf x = some .local) (hy : env.kindOf y = some .local) (hk : env.scope.kind = .function)
    (hs : swapsWithSole [.Tuple [.Name x px, .Name y py] k tp] e pos.line env = pure false) (hw : swappedStores [.Tuple [.Name x px, .Name y py] k tp] e env = pure (some [x, y])) :
    wpAny (model prog w) A (exec (.Assign [.Tuple [.Name x px, .Name y py] k tp] e pos) env) Q E s := by
  refine Assign_Tuple_swapped (names := [x, y]) (wpAny_mono he (fun v s' hv => ?_) fun _ _ x => x) hs hw
  obtain ⟨a, v1, v2, rfl, ht, hn1, kk⟩ := hv
  have key : wpAny (model prog w) A (unpackItems (.ref a) (#[v1, v2] : Array Value).size none) (fun items s₂ => ∃ h2, items = [v1, v2] ∧ s'.heap.StaysIn h2 ∧ s₂ = ({ s' with heap := h2 } : Shared)) E s' :=
    unpackItems_tuple (items := #[v1, v2]) hh ht fun h' he => ⟨h', rfl, fun b o e => he b o (Nat.ne_of_lt (Heap.lt_size e)) e, rfl⟩
  refine wpAny_mono key (fun items s₂ hi => ?_) fun _ _ x => x
  obtain ⟨h2, rfl, k2, rfl⟩ := hi
  have hp : (env.scope.kind == .class || (env.scope.kind == .module && env.locals != env.globals)) = false := by rw [hk]; rfl
  show wpAny _ _ (assignInOrder [bindName env y, bindName env x] [v2, v1]) _ _ _
  refine assignInOrder_cons (wpAny_bindName (wpAny_storeName_local hy (hn1.keeps k2) (fun h3 hn3 hs3 => ?_) hp))
  refine assignInOrder_cons (wpAny_bindName (wpAny_storeName_local hx hn3 (fun h4 hn4 hs4 => ?_) hp))
  refine assignInOrder_nil ?_
  exact kk h4 _ (fun b o hb e => hs4.extBut b o hb (hs3.extBut b o hb (k2 _ _ e))) hn4
end

theorem ranges_spec {w : World} {A : Around} {mean : ExcName → Option Value} {mg mb : Str → Option Value} {g : Heap} {s : Shared} {ca ce : Addr} {f many : Nat} {tm : Tok} {Q : Value → Shared → Prop} {E : Value → Shared → Prop}
    (c : Cx w mean mg mb g) (hg : g.StaysIn s.heap) (hgc : g.get? ca = none) (r : Rm A 2) (hc : Can w s.heap ca ce (f + (1 + 4 * many))) (hm : many ≤ 8)
    (k : ∀ fa h' tk d vs, Kw [ca] s.heap h' → s.heap.get? fa = none → LS h' fa vs → All2 IsP h' d vs → Cn B0 d → d.length = many → Can w h' ca ce f → Q (.ref fa) { s with heap := h', toks := tk }) :
    wpAny (model pg w) A (call (.ref 164) [.ref ca, .int many tm]) Q E s := by
  refine enterC (prog := pg) (binds := [("can", .ref ca), ("many", .int many tm)]) hg c.X c.T.nolimit (by k_is) (by k_is) r.room (by rfl) (by rfl) (fun L h₁ tk hL hs hn _ _ => ?_) (by rfl) (by rfl) (by rfl)
  have rd := fun env => r.deep (n := 1) env
  have hc₁ := hc.st hs
  obtain ⟨m1, hn, mc1, mm1⟩ : ∃ m1, h₁.Ns L m1 ∧ m1 "can" = some (.ref ca) ∧ m1 "many" = some (.int many tm) := ⟨_, hn, rfl, rfl⟩
  obtain ⟨oc, _, _, hoc, hdc⟩ := hc.obj
  have hcL : ca ≠ L := fun q => by rw [q, hL] at hoc; cases hoc
  have ncan : ∀ {h : Heap} {m : Str → Option Value}, h.Ns L m → m "can" = some (.ref ca) → Nm pg w h L "can" (IsV (.ref ca)) := fun hn hm => nmV hn hm rfl
  have ntc : NoTup h₁ ca := fun o' ho' _ _ _ hd' => by rw [hs _ _ hoc] at ho'; cases ho'; rw [hdc] at hd'; cases hd'
  -- first, found = (..)[_law_draw(can, 3)], []
  refine wpAny_execs_cons (exec_tup2w (m := m1) (rd _).hh ?_ rfl rfl rfl (by rfl) (by rfl))
  refine Tuple_ ?_
  refine args_cons (Ew.menu (k1 := 0) (k2 := 1) (n := 3) (P := InI fun z => -T30 ≤ z ∧ z ≤ 5) (h₀ := h₁) (by decide) (.cons' (k1 := 0) (k2 := 0) (.ofI (fun _ _ => .lit) (by decide)) (.cons' (k1 := 0) (k2 := 0) (.ofI (fun _ _ => .neg .lit) (by decide)) (.cons' (k1 := 0) (k2 := 0) (.ofI (fun _ _ => .sub .lit (.pow10 (n := 30) (by decide) (by decide) .lit .lit)) (by decide)) .nil')))
    (.draw c (stays_trans hg hs) hgc ((rd _).less (by decide)) (by decide) (fun h kw => (c.up (kw.stays (stays_trans hg hs) (by simp [hgc]))).glob (by k_is) rfl rfl rfl rfl) (fun h kw => (ncan (hn.at' fun o e => kw _ o (by simpa using Ne.symm hcL) e) mc1).on (stays_refl _) ⟨rfl, rfl, rfl⟩) (fun h kw => .lit)) (by intro _ _ _; with_unfolding_all rfl) (f + 4 * many) _ _ _ (.refl _ _) (by rw [show f + 4 * many + (0 + 1) = f + (1 + 4 * many) by omega]; exact hc₁) fun v1 h2 tk2 k2 c2 hv1 => ?_) rfl
  refine args_cons (Ev.run (R := New0 h2) .newL fun v2 h3 tk3 k3 hv2 => args_nil ?_) rfl
  obtain ⟨fa, rfl, hf3, hfn⟩ := hv2
  obtain ⟨z0, tz, rfl, hz0⟩ := hv1
  refine wpAny_newObj_type ?_ (by show 2 ≤ 16777216; decide)
  have kw3 : Kw [ca] h₁ (h3.push { cls := .type "tuple", data := .seq #[.int z0 tz, .ref fa] }) := k2.trans (.of (stays_trans k3 (stays_push _ _)))
  have hf4 := hf3.st (stays_push _ { cls := .type "tuple", data := .seq #[.int z0 tz, .ref fa] })
  have c4 := (c2.st k3).st (stays_push _ { cls := .type "tuple", data := .seq #[.int z0 tz, .ref fa] })
  have ht4 : IsTup (h3.push { cls := .type "tuple", data := .seq #[.int z0 tz, .ref fa] }) h3.objs.size #[.int z0 tz, .ref fa] := ⟨_, Heap.get?_push_size _ rfl, rfl, 0, rfl⟩
  generalize h3.push { cls := .type "tuple", data := .seq #[.int z0 tz, .ref fa] } = h4 at kw3 hf4 c4 ht4
  have hn4 := hn.at' fun o e => kw3 _ o (by simpa using Ne.symm hcL) e
  refine ⟨_, _, _, rfl, ht4, hn4, fun h7 tk7 up7 hn7 => ?_⟩
  have up7 : ∀ b o, b ≠ L → h4.get? b = some o → h7.get? b = some o := up7
  have hfL : fa ≠ L := fun q => by
    obtain ⟨o, _, _, ho, _⟩ := hn
    have := k2 L o (by simpa using Ne.symm hcL) ho
    rw [q, this] at hfn; cases hfn
  have hfc : fa ≠ ca := fun q => by
    obtain ⟨o, _, _, ho, _⟩ := c2.obj
    rw [q, ho] at hfn; cases hfn
  have hsf : s.heap.get? fa = none := by
    cases q : s.heap.get? fa with
    | none => rfl
    | some o => have := k2 _ _ (by simpa using hfc) (hs _ _ q); rw [hfn] at this; cases this
  have hf7 : LS h7 fa [] := by obtain ⟨n, e⟩ := hf4; exact ⟨n, up7 _ _ hfL e⟩
  have hceL : ce ≠ L := fun q => by
    obtain ⟨o, _, _, ho, _⟩ := hc.lst
    rw [q, hL] at ho; cases ho
  have hcef : ce ≠ fa := fun q => by
    obtain ⟨o, _, _, ho, _⟩ := hc.lst
    rw [q, hsf] at ho; cases ho
  have c7 : Can w h7 ca ce (f + 4 * many) := c4.kw (W := [L]) (fun b o nb e => up7 b o (by simpa using nb) e) (by simpa using hcL) (by simpa using hceL)
  have kw7 : Kw [L, ca] h₁ h7 := fun b o nb e => up7 b o (fun q => nb (by simp [q])) (kw3 b o (fun q => nb (by simp at q; simp [q])) e)
  have g7 : g.StaysIn h7 := fun b o e => by
    have e1 := hg _ _ e
    exact kw7 b o (fun q => by
      rcases List.mem_cons.mp q with q | q
      · rw [q, hL] at e1; cases e1
      · rw [List.mem_singleton.mp q, hgc] at e; cases e) (hs _ _ e1)
  have gL : g.get? L = none := by
    cases q : g.get? L with
    | none => rfl
    | some o => have := hg _ _ q; rw [hL] at this; cases this
  have gf : g.get? fa = none := by
    cases q : g.get? fa with
    | none => rfl
    | some o => have := hg _ _ q; rw [hsf] at this; cases this
  have out : ∀ {h'}, Kw [L, fa, ca] h7 h' → g.StaysIn h' := fun kw => kw.stays g7 (by simp [gL, gf, hgc])
  generalize hm7 : (fun y => if y = Str.ofString "first" then some (Value.int z0 tz) else if y = Str.ofString "found" then some (Value.ref fa) else m1 y) = m7 at hn7
  have mf : m7 "found" = some (.ref fa) := by rw [← hm7]; rfl
  have mz : m7 "first" = some (.int z0 tz) := by rw [← hm7]; rfl
  have mc : m7 "can" = some (.ref ca) := by rw [← hm7]; exact mc1
  have mm : m7 "many" = some (.int many tm) := by rw [← hm7]; exact mm1
  have hWo : ∀ a ∈ [L, fa, ca], (∃ o, h7.get? a = some o ∧ ∀ fs, o.data ≠ .fields fs) ∧ NoTup h7 a := fun a ha => by
    rcases List.mem_cons.mp ha with rfl | ha
    · obtain ⟨o, _, _, ho, hd, _⟩ := id hn7; exact ⟨⟨o, ho, fun fs q => by rw [hd] at q; cases q⟩, noTup_ns hn7⟩
    rcases List.mem_cons.mp ha with rfl | ha
    · obtain ⟨n, e⟩ := id hf7; exact ⟨⟨_, e, fun fs q => by cases q⟩, hf7.noTup⟩
    · rw [List.mem_singleton.mp ha]
      obtain ⟨o, _, _, ho, hd⟩ := c7.obj
      exact ⟨⟨o, ho, fun fs q => by rw [hd] at q; cases q⟩, fun o' ho' _ _ _ hd' => by rw [ho] at ho'; cases ho'; rw [hd] at hd'; cases hd'⟩
  refine wpAny_execs_cons (for_rule (RS := IsI) (items := rngL 0 1 many) (W := [L, fa, ca]) (Inv := fun pre h m => m "can" = some (.ref ca) ∧ m "found" = some (.ref fa) ∧ (∃ z t, m "first" = some (.int z t) ∧ -T30 ≤ z ∧ z ≤ 10 + 3000000000000000000000000000000 * (pre.length : Int) ∧
      ∃ acc vs, LS h fa vs ∧ All2 IsP h acc vs ∧ acc.length = pre.length ∧ Cn B0 acc ∧ (∀ p ∈ acc, p.2 + 1 < z)) ∧ Can w h ca ce (f + 4 * (many - pre.length)))
    ((Ev.range1 ((c.up g7).blt (ns_range w) bb_range (by decide) rfl rfl rfl rfl rfl) ((nmI hn7 mm rfl).on (stays_refl _) ⟨rfl, rfl, rfl⟩)).mono' fun h u hh hu => ⟨src_rg (rd _).hh (rangeSize1 many) hu, fun a ha => ?_⟩)
    (fun a ha => ⟨let ⟨⟨o, ho, _⟩, _⟩ := hWo a ha; ⟨o, ho⟩, (hWo a ha).2⟩) (by simp [envOfC]) (binds_int rfl rfl) (.inl ⟨_, _, rfl⟩) hn7 (fun h' hk => ?_)
    (fun pre h h' m ⟨x1, x2, ⟨z, t, x3, x4, x5, acc, vs, l, a, r3⟩, cc⟩ lk => ⟨x1, x2, ⟨z, t, x3, x4, x5, acc, vs, l.lk lk, a.tl tstab_p lk.tl, r3⟩, cc.lk lk hcL⟩)
    (fun pre h m m' ⟨x1, x2, ⟨z, t, x3, r3⟩, r4⟩ u => ⟨(u _ (by decide)).trans x1, (u _ (by decide)).trans x2, ⟨z, t, (u _ (by decide)).trans x3, r3⟩, r4⟩) ?_ ?_ (fun _ => rfl))
  · obtain ⟨⟨o, ho, hd⟩, _⟩ := hWo a ha
    exact rg_ne hu (hh _ _ ho) hd
  · refine ⟨mc, mf, ⟨z0, tz, mz, hz0.1, by have := hz0.2; simp; omega, [], [], hf7.st hk, trivial, rfl, ⟨by simp, .nil⟩, by simp⟩, ?_⟩
    exact c7.st hk
  · rintro pre x post s' m' hit hkw hn' ⟨tl, el⟩ ⟨xc, xf, ⟨z, t, xz, z1, z2, acc, vs, hl, ha, hlen, hcn, hlt⟩, cc⟩ ⟨h', tk', rfl⟩
    have hpl : pre.length + 1 ≤ many := by
      have := congrArg List.length hit
      rw [List.length_append, List.length_cons] at this
      unfold rngL at this
      simp at this; omega
    have g' := out hkw
    -- more
    refine wpAny_execs_cons (exec_asnw (ca := ca) (ce := ce) (f := f + 4 * (many - (pre.length + 1)) + 1) (P := InI fun z => 0 ≤ z ∧ z ≤ T30) (Ew.menu (n := 6) (by decide) (.cons' (.ofI (fun _ _ => .lit) (by decide)) (.cons' ((Ew.drawN c g' hgc ((rd _).less (by decide)) (by decide) hn' xc hcL rfl rfl rfl rfl rfl rfl rfl).mono fun v ⟨z, t, e, h⟩ => ⟨z, t, e, h.1, by have := h.2; have := t30; omega⟩)
      (.cons' (.ofI (fun _ _ => .lit) (by decide)) (.cons' (.add (X := fun z => z = 499999) (.ofI (fun _ _ => .lit) rfl) (.drawN c g' hgc ((rd _).less (by decide)) (by decide) hn' xc hcL rfl rfl rfl rfl rfl rfl rfl) (fun a b ha hb => by subst ha; have := t30; omega))
      (.cons' (.ofI (fun _ _ => .pow10 (n := 6) (by decide) (by decide) .lit .lit) (by decide)) (.cons' (.ofI (fun _ _ => .pow10 (n := 30) (by decide) (by decide) .lit .lit) (by decide)) .nil'))))))
      (.drawN c g' hgc ((rd _).less (by decide)) (by decide) hn' xc hcL rfl rfl rfl rfl rfl rfl rfl) (by intro _ _ _; with_unfolding_all rfl)) (cc.less (by omega)) hn' hcL rfl rfl (by rfl) fun v h8 h9 tk9 k8 c8 hv k9 hn9 => ?_)
    obtain ⟨mo, tmo, rfl, mo1, mo2⟩ := hv
    have k9e : ∀ b o, b ≠ L → h8.get? b = some o → h9.get? b = some o := k9.extBut
    have up9 : ∀ b o, b ≠ L → b ≠ ca → h'.get? b = some o → h9.get? b = some o := fun b o b1 b2 e => k9.extBut _ _ b1 (k8 _ _ (by simpa using b2) e)
    have kw9 : Kw [L, fa, ca] h' h9 := fun b o nb e => up9 b o (fun q => nb (by simp [q])) (fun q => nb (by simp [q])) e
    have hl9 : LS h9 fa vs := by obtain ⟨n, e⟩ := hl; exact ⟨n, up9 _ _ hfL hfc e⟩
    have ntL' : NoTup h' L := noTup_ns hn'
    have ntc' : NoTup h' ca := by
      obtain ⟨o, _, _, ho, hd⟩ := cc.obj
      intro o' ho' _ _ _ hd'
      rw [ho] at ho'; cases ho'; rw [hd] at hd'; cases hd'
    have ha9 : All2 IsP h9 acc vs := ha.tl tstab_p (TL.but2 up9 ntL' ntc')
    have c9 : Can w h9 ca ce (f + 4 * (many - (pre.length + 1)) + 1) := c8.kw (W := [L]) (fun b o nb e => k9e _ _ (by simpa using nb) e) (by simpa using hcL) (by simpa using hceL)
    generalize hm9 : (fun y => if y = Str.ofString "more" then some (Value.int mo tmo) else m' y) = m9 at hn9
    have q9 : ∀ y : Str, y ≠ Str.ofString "more" → m9 y = m' y := fun y hy => by rw [← hm9]; simp only [if_neg hy]
    have nmo := nmI (prog := pg) (w := w) (x := "more") (i := mo) (t := tmo) hn9 (by rw [← hm9]; simp) rfl
    have nfi := nmI (prog := pg) (w := w) (x := "first") hn9 ((q9 _ (by decide)).trans xz) rfl
    have nfo := nmV (prog := pg) (w := w) (x := "found") hn9 ((q9 _ (by decide)).trans xf) rfl
    have hacc : acc.length ≤ 8 := by omega
    -- found.append((first, first + more))
    refine wpAny_execs_cons (exec_append (vs := vs) (R := IsP (z, z + mo)) (nfo.on (stays_refl _) ⟨rfl, rfl, rfl⟩) (.pair (nfi.on (stays_refl _) ⟨rfl, rfl, rfl⟩) (.add (nfi.on (stays_refl _) ⟨rfl, rfl, rfl⟩) (nmo.on (stays_refl _) ⟨rfl, rfl, rfl⟩))) hl9 (by rw [ha.len]; omega) (fun v h10 h11 tk11 j1 j2 j3 j4 => ?_) rfl rfl ⟨_, rfl⟩)
    have hn11 : h11.Ns L m9 := (hn9.keeps j1).at' fun o eo => j3 _ o (Ne.symm hfL) eo
    have ha11 : All2 IsP h11 (acc ++ [(z, z + mo)]) (vs ++ [v]) := ((ha9.tl tstab_p (.of j1)).snoc j2).tl tstab_p (TL.but j3 (hl9.st j1).noTup)
    have c11 : Can w h11 ca ce (f + 4 * (many - (pre.length + 1)) + 1) := (c9.st j1).kw (W := [fa]) (fun b o nb e => j3 _ _ (by simpa using nb) e) (by simpa using Ne.symm hfc) (by simpa using hcef)
    have kw11 : Kw [L, fa, ca] h' h11 := kw9.trans (fun b o nb e => j3 b o (fun q => nb (by simp [q])) (j1 _ _ e))
    have g11 := out (hkw.trans kw11)
    have nmo11 : ∀ h, Kw [ca] h11 h → Nm pg w h L "more" (IsI mo) := fun h kw => nmI (t := tmo) (hn11.at' fun o e => kw _ o (by simpa using Ne.symm hcL) e) (by rw [← hm9]; simp) rfl
    have nfi11 : ∀ h, Kw [ca] h11 h → Nm pg w h L "first" (IsI z) := fun h kw => nmI (hn11.at' fun o e => kw _ o (by simpa using Ne.symm hcL) e) ((q9 _ (by decide)).trans xz) rfl
    -- first = first + more + 2 + (..)[..]
    refine wpAny_execs_cons (exec_asnw (ca := ca) (ce := ce) (f := f + 4 * (many - (pre.length + 1))) (P := InI fun y => z + mo + 2 ≤ y ∧ y ≤ z + mo + 2 + T30) (Ew.add (X := fun y => y = z + mo + 2) (Y := fun y => 0 ≤ y ∧ y ≤ T30) (.ofI (fun h kw => .add (.add ((nfi11 h kw).on (stays_refl _) ⟨rfl, rfl, rfl⟩) ((nmo11 h kw).on (stays_refl _) ⟨rfl, rfl, rfl⟩)) .lit) rfl)
      (Ew.menu (n := 3) (by decide) (.cons' (.ofI (fun _ _ => .lit) (by decide)) (.cons' (.ofI (fun _ _ => .lit) (by decide)) (.cons' (.ofI (fun _ _ => .pow10 (n := 30) (by decide) (by decide) .lit .lit) (by decide)) .nil'))) (.drawN c g11 hgc ((rd _).less (by decide)) (by decide) hn11 ((q9 _ (by decide)).trans xc) hcL rfl rfl rfl rfl rfl rfl rfl) (by intro _ _ _; with_unfolding_all rfl))
      (fun a b ha hb => by subst ha; omega)) (c11.less (by omega)) hn11 hcL rfl rfl (by rfl) fun v2 h12 h13 tk13 k12 c12 hv2 k13 hn13 => wpAny_execs_nil ?_)
    obtain ⟨z', t', rfl, y1, y2⟩ := hv2
    have k13e : ∀ b o, b ≠ L → h12.get? b = some o → h13.get? b = some o := k13.extBut
    have up13 : ∀ b o, b ≠ L → b ≠ ca → h11.get? b = some o → h13.get? b = some o := fun b o b1 b2 e => k13.extBut _ _ b1 (k12 _ _ (by simpa using b2) e)
    have ntc11 : NoTup h11 ca := by
      obtain ⟨o, _, _, ho, hd⟩ := c11.obj
      intro o' ho' _ _ _ hd'
      rw [ho] at ho'; cases ho'; rw [hd] at hd'; cases hd'
    have hT := t30
    have hB := b0
    refine ⟨h13, tk13, _, rfl, kw11.trans (fun b o nb e => up13 b o (fun q => nb (by simp [q])) (fun q => nb (by simp [q])) e), hn13, ?_, ?_, ⟨z', t', by simp, by omega, ?_, acc ++ [(z, z + mo)], vs ++ [v], ?_, ha11.tl tstab_p (TL.but2 up13 (noTup_ns hn11) ntc11), by simp [hlen], ?_, ?_⟩, ?_⟩
    · exact (q9 _ (by decide)).trans xc
    · exact (q9 _ (by decide)).trans xf
    · rw [List.length_append, List.length_singleton]; push_cast; omega
    · obtain ⟨n, e⟩ := j4; exact ⟨n, up13 _ _ hfL hfc e⟩
    · have hpl' : (pre.length : Int) ≤ 7 := by omega
      refine hcn.snoc ⟨by show z ≤ z + mo; omega, by show -B0 ≤ z; omega, by show z + mo ≤ B0; omega⟩ hlt
    · intro p hp
      rcases List.mem_append.mp hp with hp | hp
      · have := hlt p hp; omega
      · rw [List.mem_singleton.mp hp]; show z + mo + 1 < z'; omega
    · rw [List.length_append, List.length_singleton]
      exact c12.kw (W := [L]) (fun b o nb e => k13e _ _ (by simpa using nb) e) (by simpa using hcL) (by simpa using hceL)
  · rintro h' tk' m' hkw hn' ⟨xc, xf, ⟨z, t, xz, z1, z2, acc, vs, hl, ha, hlen, hcn, hlt⟩, cc⟩
    refine wpAny_execs_cons (exec_ret (R := IsV (.ref fa)) ((nmV (prog := pg) (w := w) (x := "found") hn' xf rfl).on (stays_refl _) ⟨rfl, rfl, rfl⟩) fun v h14 tk14 k14 hv => ?_)
    cases hv
    have hlen' : acc.length = many := by rw [hlen]; unfold rngL; simp
    refine k fa h14 tk14 acc vs (fun b o nb e => k14 _ _ (hkw b o (fun q => ?_) (kw7 b o (fun q => ?_) (hs _ _ e)))) hsf (hl.st k14) (ha.tl tstab_p (.of k14)) hcn hlen' ((cc.less (by omega)).st k14)
    · rcases List.mem_cons.mp q with q | q
      · rw [q, hL] at e; cases e
      rcases List.mem_cons.mp q with q | q
      · rw [q, hsf] at e; cases e
      · exact nb q
    · rcases List.mem_cons.mp q with q | q
      · rw [q, hL] at e; cases e
      · exact nb q
end Mine
end
section -- Q23
open PySem PySem.W PyProof.Rows PySem.Calls
set_option maxRecDepth 100000
set_option maxHeartbeats 400000
set_option linter.unusedVariables false
namespace Mine
section
variable {prog : Program} {w : World} {A : Around} {R : Result → Shared → Prop} {s : Shared}
theorem compStart1 {elt target iter target' iter' : Expr} {ifs ifs' : List Expr} {scope : Scope} {pos : Pos} {it acc : Value} {env : Env}
    (h0 : codeAny (model prog w) A (.compLoop (.ListComp elt [⟨target, iter, ifs, 0⟩, ⟨target', iter', ifs', 0⟩] scope pos) 1 it acc env) R s)
    (h : wpAny (model prog w) A (pyIter it) (fun it' s' => codeAny (model prog w) A (.compLoop (.ListComp elt [⟨target, iter, ifs, 0⟩, ⟨target', iter', ifs', 0⟩] scope pos) 1 it' acc env) R s')
      (notedBy (model prog w) A env fun x s' => R (.error x) s') s) :
    codeAny (model prog w) A (.compStart (.ListComp elt [⟨target, iter, ifs, 0⟩, ⟨target', iter', ifs', 0⟩] scope pos) 1 it acc env) R s := by
  refine codeAny_of_tree ?_
  show wpAny _ _ ((compStart (.ListComp elt [⟨target, iter, ifs, 0⟩, ⟨target', iter', ifs', 0⟩] scope pos) 1 it acc env).onRaise (fun x => do noteFrame x env; standAt theWindowsPlace)) _ _ s
  refine wpAny_notedAt ?_
  unfold compStart
  show wpAny _ _ (ask >>= _) _ _ s
  refine wpAny_bind (wpAny_askSetting (wpAny_ite ?_))
  split
  · first
      | exact wpAny_bind (wpAny_pure (wpAny_pure (And.intro rfl h0)))
      | exact wpAny_pure (And.intro rfl h0)
  · first
      | exact wpAny_bind (wpAny_rule (wpAny_bind (wpAny_standAt (wpAny_bind (wpAny_mono h (fun it' s' h' => wpAny_pure (And.intro rfl h')) fun _ _ x => x)))))
      | (refine wpAny_bind (wpAny_rule ?_); show wpAny _ _ (standAt iter'.pos >>= _) _ _ s; exact wpAny_bind (wpAny_standAt (wpAny_bind (wpAny_mono h (fun it' s' h' => wpAny_pure (And.intro rfl h')) fun _ _ x => x))))
end
section
variable {α β γ : Type} {prog : Program} {w : World} {A : Around} {RS : α → Heap → Value → Prop} {RS2 : β → Heap → Value → Prop} {Ro : γ → Heap → Value → Prop}
theorem ev_comp2 {env : Env} {h₀ : Heap} {elt target iter target' iter' : Expr} {ifs' : List Expr} {scope : Scope} {cl : List (Str × Addr)} {pos : Pos} {items : List α} {items2 : α → List β}
    {Tg : α → (Str → Option Value) → Prop} {upd : (Str → Option Value) → (Str → Option Value) → Prop} {Tg2 : β → (Str → Option Value) → Prop} {upd2 : (Str → Option Value) → (Str → Option Value) → Prop} (Mi : α → (Str → Option Value) → Prop) (p : α → β → Bool) (f : α → β → γ)
    (hh : A.handled = none) (hiter : EvS prog w A env h₀ RS items iter) (stO : TStab Ro)
    (hb : ∀ C, Binds prog w A (compEnvC scope cl C env) RS target Tg upd) (hb2 : ∀ C, Binds prog w A (compEnvC scope cl C env) RS2 target' Tg2 upd2)
    (htgt : (∃ x p, target = .Name x p) ∨ ∃ es k p, target = .Tuple es k p) (htgt2 : (∃ x p, target' = .Name x p) ∨ ∃ es k p, target' = .Tuple es k p)
    (hMi0 : ∀ x m, Tg x m → Mi x m) (hMi : ∀ x m m', Mi x m → upd2 m m' → Mi x m')
    (hit2 : ∀ C D x g m, x ∈ items → h₀.StaysIn g → h₀.get? C = none → h₀.get? D = none → (∃ its, g.IsList D its) → g.Ns C m → Mi x m → Ev prog w A (compEnvC scope cl C env) g iter' (fun h v => Src prog w A RS2 (items2 x) h v ∧ v ≠ .ref C ∧ v ≠ .ref D))
    (he : ∀ C x y g m, x ∈ items → y ∈ items2 x → h₀.StaysIn g → g.Ns C m → Mi x m → Tg2 y m → TestAt prog w A (compEnvC scope cl C env) g ifs' (p x y) ∧ (p x y = true → Ev prog w A (compEnvC scope cl C env) g elt (Ro (f x y))))
    (hlen : (items.flatMap fun x => ((items2 x).filter (p x)).map (f x)).length ≤ 1000000)
    (hclos : closureFor scope env = pure cl) (hcell : ∀ y ∈ scope.names, y.2 ≠ .cell) (hkind : scope.kind = .function)
    (hnames : ∀ y ∈ scope.names, y.2 = .local → scope.names.lookup y.1 = some .local)
    (hsf : ∀ x, foldedSetIterable iter env x = pure x) (hsf2 : ∀ C x, foldedSetIterable iter' (compEnvC scope cl C env) x = pure x) :
    Ev prog w A env h₀ (.ListComp elt [⟨target, iter, [], 0⟩, ⟨target', iter', ifs', 0⟩] scope pos) (IsL Ro (items.flatMap fun x => ((items2 x).filter (p x)).map (f x))) := by
  refine ev_comp (fun D cenv => body2 (.ListComp elt [⟨target, iter, [], 0⟩, ⟨target', iter', ifs', 0⟩] scope pos) ⟨target', iter', ifs', 0⟩ [] (.ref D) cenv) (fun it D cenv => turn2 ..) hh hiter stO hb htgt hlen ?_ hclos hcell hkind hnames hsf
  intro C D x s m ys out Q hx hC hD hCD hs hn htg hDl hys hl k
  unfold body2 testsOf
  refine wpAny_bind (wpAny_tests_nil ?_)
  simp only [if_true]
  refine wpAny_bind (hit2 C D x s.heap m hx hs hC hD ⟨_, hDl⟩ hn (hMi0 x m htg) s _ _ (stays_refl _) fun xv h1 tk1 hk1 hv => ?_)
  obtain ⟨hsrc, hvC, hvD⟩ := hv
  refine wpAny_bind (wpAny_standAt ?_)
  rw [hsf2 C xv]
  refine wpAny_bind (wpAny_pure ?_)
  refine wpAny_bind (wpAny_holding ?_)
  refine hsrc _ _ _ (stays_refl _) fun I fp P St h2 W hst hk2 hI hfp hInt hfpx hit hgo => ?_
  refine wpAny_bind (wpAny_runOwn ?_)
  dsimp only at hk2 hI hst ⊢
  have hCC : (compEnvC scope cl C env).locals = C := rfl
  have hn1 := hn.keeps hk1
  have hD1 : h1.IsList D ys.toArray := by obtain ⟨o, ho, r⟩ := hDl; exact ⟨o, hk1 _ _ ho, r⟩
  have hIC : C ≠ I := fun q => by obtain ⟨o, _, _, ho, _⟩ := hn1; rw [q, hI] at ho; cases ho
  have hID : D ≠ I := fun q => by obtain ⟨o, ho, _⟩ := hD1; rw [q, hI] at ho; cases ho
  have hgo' : ∀ i (s' : Shared) (v : Value) (Q' : Unit → Shared → Prop) (E' : Value → Shared → Prop), St i s'.heap → Q' () s' → wpAny (model prog w) A (letOwnedTupleGo target' (.ref I) v) Q' E' s' := by
    intro i s' v Q' E' hst' hq
    rcases htgt2 with ⟨x, p, rfl⟩ | ⟨es, kk, p, rfl⟩
    · exact wpAny_pure hq
    · exact hgo i s' es kk p v Q' E' hst' hq
  have hfpC : C ∉ fp := fun q => by
    rcases hfpx C q with e | e
    · exact hIC e
    · exact hvC e
  have hfpD : D ∉ fp := fun q => by
    rcases hfpx D q with e | e
    · exact hID e
    · exact hvD e
  have hlen2 : ((items2 x).flatMap fun y => if p x y then [f x y] else []) = ((items2 x).filter (p x)).map (f x) := flatMap_if _ _ _
  have loop : ∀ s₃ : Shared, s₃ = { s with heap := h2, toks := tk1 } → codeAny (model prog w) A (.compLoop (.ListComp elt [⟨target, iter, [], 0⟩, ⟨target', iter', ifs', 0⟩] scope pos) 1 (.ref I) (.ref D) (compEnvC scope cl C env))
      (fun r s' => match r with | .ok f => wpAny (model prog w) A (pure ()) Q (fun _ _ => False) s' | .error e => cameBackBy (model prog w) A (compEnvC scope cl C env) (fun _ _ => False) e s') s₃ := by
    rintro s₃ rfl
    refine comp_loop (C := C) (hs := h1) (Mi := Mi x) (B := 1000000) (out₀ := out) (ys₀ := ys) (g := fun y => if p x y then [f x y] else []) (body := body1 elt ifs' (.ref D) (compEnvC scope cl C env)) (turn2' ..) rfl W hst hI hfpC hfpD hCD hit hgo' (fun i h st => ?_) stO (hb2 C) (fun m m' a b => hMi x m m' a b)
      (noTup_ns hn1) (noTup_list hD1) (by rw [hlen2]; exact hl) ?_ (fun b o _ _ e => hk2 _ _ e) (hn1.keeps hk2) (hMi0 x m htg) (by obtain ⟨o, ho, r⟩ := hD1; exact ⟨o, hk2 _ _ ho, r⟩) (hys.tl stO (.of (stays_trans hk1 hk2))) ?_
    · obtain ⟨o, fs, ho, hd⟩ := hInt i h st
      intro o' ho' _ _ _ hd'
      rw [ho] at ho'; cases ho'; rw [hd] at hd'; cases hd'
    · intro y s' m2 ys2 out2 Q' hy hkp hn2 htg2 hm2 hD2 hys2 hl2 kk
      have hs2 : h₀.StaysIn s'.heap := fun b o e => hkp b o (fun q => by rw [q, hC] at e; cases e) (fun q => by rw [q, hD] at e; cases e) (hk1 _ _ (hs _ _ e))
      obtain ⟨e1, e2⟩ := he C x y s'.heap m2 hx hy hs2 hn2 hm2 htg2
      refine body1_wp stO e1 e2 hD2 hys2 (by omega) fun h' tk ys' k1 hD' hys' => ?_
      exact kk h' tk m2 ys' (fun b o _ b2 e => k1 b o b2 e) (hn2.at' fun o e => k1 _ o hCD e) hm2 hD' hys'
    · intro h' tk m' ys' hkp hn' _ hD' hys'
      refine wpAny_pure (k h' tk m' ys' (fun b o b1 b2 e => hkp b o b1 b2 (hk1 _ _ e)) hn' hD' ?_)
      rw [hlen2] at hys'; exact hys'
  exact compStart1 (loop _ rfl) (W.self 0 _ _ _ hst (loop _ rfl))
end
end Mine
end
section -- Q24
open PySem PySem.W PyProof.Rows PySem.Calls
set_option maxRecDepth 100000
set_option maxHeartbeats 400000
set_option linter.unusedVariables false
namespace Mine
theorem fill24 : (PySem.Challenge.rw_qd0006_01, Mine.hd.heap_39) = (PySem.Challenge.rw_qd0006_01, Mine.hd.heap_39) := by k_fill; rfl

def commonL (some others : Dm) : Dm := some.flatMap fun x => (others.filter fun y => decide (max x.1 y.1 ≤ min x.2 y.2)).map fun y => (max x.1 y.1, min x.2 y.2)
def commonD (some others : Dm) : Dm := sortD (commonL some others)
theorem cl_common {w : World} {A : Around} {mean : ExcName → Option Value} {mg mb : Str → Option Value} {h : Heap} {v u : Value} {d e : Dm} (c : Cx w mean mg mb h) (r : Rm A 2) (hd : IsL IsP d h v) (he : IsL IsP e h u) (hl : (commonL d e).length < 64) :
    Cl pg w A h (.ref 169) [v, u] (IsN h IsP (commonD d e)) := by
  refine cl_return (prog := pg) (binds := [("some", v), ("others", u)]) c.X c.T.nolimit (by k_is) (by k_is) r.room (by rfl) (by rfl) (fun L h₁ hs hn hc => ?_) (by rfl) (by rfl) (by rfl)
  have c₁ := c.up hs
  have rd := fun env => r.deep (n := 1) env
  have hk : h₁.IsCell (L + 1) (some u) := hc "others" (L + 1) rfl
  have hd₁ := stab_l tstab_p d _ _ _ hs hd
  have he₁ := stab_l tstab_p e _ _ _ hs he
  refine (Ev.sortL (c₁.blt (ns_sorted w) bb_sorted (by decide) rfl rfl rfl rfl rfl) ?_ hl rfl rfl).mono fun g y hy => hy.base hs
  refine ev_comp2 (RS := IsP) (RS2 := IsP) (cl := [("others", L + 1)]) (items := d) (items2 := fun _ => e) (Tg := fun z m => ∃ t u, m "a" = some (.int z.1 t) ∧ m "b" = some (.int z.2 u)) (upd := fun m m' => ∀ q : Str, q ≠ "a" → q ≠ "b" → m' q = m q)
    (Tg2 := fun z m => ∃ t u, m "c" = some (.int z.1 t) ∧ m "d" = some (.int z.2 u)) (upd2 := fun m m' => ∀ q : Str, q ≠ "c" → q ≠ "d" → m' q = m q)
    (fun z m => ∃ t u, m "a" = some (.int z.1 t) ∧ m "b" = some (.int z.2 u)) (fun x y => decide (max x.1 y.1 ≤ min x.2 y.2)) (fun x y => (max x.1 y.1, min x.2 y.2))
    (rd _).hh ((Ev.loc hn rfl rfl rfl rfl).srcL (rd _).hh tstab_p hd₁) tstab_p (fun C => binds_pair (x := "a") (y := "b") (rd _).hh rfl rfl (by decide) rfl) (fun C => binds_pair (x := "c") (y := "d") (rd _).hh rfl rfl (by decide) rfl) (.inr ⟨_, _, _, rfl⟩) (.inr ⟨_, _, _, rfl⟩) (fun x m h => h)
    (fun x m m' ⟨t, u, e1, e2⟩ hu => ⟨t, u, (hu _ (by decide) (by decide)).trans e1, (hu _ (by decide) (by decide)).trans e2⟩) (fun C D x g m hx hg hC hD hDl hnm hM => ?_) (fun C x y g m hx hy hg hnm ⟨t1, t2, e1, e2⟩ ⟨t3, t4, e3, e4⟩ => ?_) (by show (commonL d e).length ≤ 1000000; omega) (by rfl) (by decide) (by rfl) (by decide) (fun _ => rfl) (fun _ _ => rfl)
  · refine (Ev.cell (prog := pg) (w := w) (x := "others") (c := L + 1) (v := u) rfl (hk.keeps hg) rfl rfl rfl).mono' fun g' y hg' e => ?_
    cases e
    refine ⟨src_list (rd _).hh tstab_p (stab_l tstab_p _ _ _ _ (stays_trans hg hg') he₁), ?_, ?_⟩
    · obtain ⟨b, vs, rfl, ⟨o, ho, _⟩, _⟩ := he₁
      intro q; cases q; rw [hC] at ho; cases ho
    · obtain ⟨b, vs, rfl, ⟨o, ho, _⟩, _⟩ := he₁
      intro q; cases q; rw [hD] at ho; cases ho
  · have na := nmI (prog := pg) (w := w) (x := "a") hnm e1 rfl
    have nb := nmI (prog := pg) (w := w) (x := "b") hnm e2 rfl
    have nc := nmI (prog := pg) (w := w) (x := "c") hnm e3 rfl
    have nd := nmI (prog := pg) (w := w) (x := "d") hnm e4 rfl
    have cg := c₁.up hg
    have mx : ∀ {A : Around} {env : Env} {pos : Pos}, env.globals = mainGlobals → env.builtins = builtinsNs → env.scope.kind = .function → env.kindOf "max" = some .globalImplicit → Ev pg w A env g (.Name "max" pos) (IsV (.builtin "max")) := fun e1 e2 e3 e4 => cg.blt (ns_max w) bb_max (by decide) e1 e2 e3 e4 rfl
    have mn : ∀ {A : Around} {env : Env} {pos : Pos}, env.globals = mainGlobals → env.builtins = builtinsNs → env.scope.kind = .function → env.kindOf "min" = some .globalImplicit → Ev pg w A env g (.Name "min" pos) (IsV (.builtin "min")) := fun e1 e2 e3 e4 => cg.blt (ns_min w) bb_min (by decide) e1 e2 e3 e4 rfl
    refine ⟨.le (.max (rd _).hh (mx rfl rfl rfl rfl) (na.on (stays_refl _) ⟨rfl, rfl, rfl⟩) (nc.on (stays_refl _) ⟨rfl, rfl, rfl⟩)) (.min (rd _).hh (mn rfl rfl rfl rfl) (nb.on (stays_refl _) ⟨rfl, rfl, rfl⟩) (nd.on (stays_refl _) ⟨rfl, rfl, rfl⟩)), fun _ => ?_⟩
    exact .pair (.max (rd _).hh (mx rfl rfl rfl rfl) (na.on (stays_refl _) ⟨rfl, rfl, rfl⟩) (nc.on (stays_refl _) ⟨rfl, rfl, rfl⟩)) (.min (rd _).hh (mn rfl rfl rfl rfl) (nb.on (stays_refl _) ⟨rfl, rfl, rfl⟩) (nd.on (stays_refl _) ⟨rfl, rfl, rfl⟩))
end Mine
end
section -- Q25
open PySem PySem.W PyProof.Rows PySem.Calls
set_option maxRecDepth 100000
set_option maxHeartbeats 400000
set_option linter.unusedVariables false
namespace Mine
theorem fill25 : (PySem.Challenge.rw_qd0006_01, Mine.hd.heap_39) = (PySem.Challenge.rw_qd0006_01, Mine.hd.heap_39) := by k_fill; rfl

section
variable {α : Type} {prog : Program} {w : World} {A : Around} {env : Env} {h₀ : Heap} {R : Heap → Value → Prop}
/-- a call of a def without arguments -/
theorem Ev.callF0 {f : Addr} {o : Obj} {fd : FuncData} {func : Expr} {pos : Pos} (ho : h₀.get? f = some o) (hdat : o.data = .func fd) (hf : Ev prog w A env h₀ func (IsV (.ref f))) (hc : ∀ g, h₀.StaysIn g → Cl prog w A g (.ref f) [] R)
    (hcall : eval (.Call func [] [] pos) env = (do callWith pos (← eval func env) [] [] []) := by rfl) :
    Ev prog w A env h₀ (.Call func [] [] pos) R := fun s Q E hs k => by
  rw [hcall]
  refine wpAny_bind (hf s _ E hs fun v h' tk hk hv => ?_)
  cases hv
  refine callWith_function (o := o) (fd := fd) (PyProof.Rows.evalArgs_none ⟨⟨hk _ _ (hs _ _ ho), hdat⟩, ?_⟩)
  exact hc h' (stays_trans hs hk) _ Q E (stays_refl _) fun v h3 tk3 hk3 hv => k v h3 tk3 (stays_trans hk hk3) hv
theorem add_lst {t b : Addr} {vs ws : List Value} {s : Shared} {Q : Value → Shared → Prop} {E : Value → Shared → Prop} (ht : s.heap.IsList t vs.toArray) (hb : s.heap.IsList b ws.toArray) (hsz : vs.length + ws.length ≤ 2000000)
    (k : ∀ a h', s.heap.StaysIn h' → h'.IsList a (vs ++ ws).toArray → Q (.ref a) { s with heap := h' }) : wpAny (model prog w) A (binaryOp .Add (.ref t) (.ref b)) Q E s := by
  obtain ⟨⟨cls, dd, data, sl⟩, ho, hc, n, hd⟩ := id ht
  obtain ⟨⟨cls2, dd2, data2, sl2⟩, ho2, hc2, n2, hd2⟩ := id hb
  simp only at hc hd hc2 hd2
  subst hc hd hc2 hd2
  have e : vs.toArray ++ ws.toArray = (vs ++ ws).toArray := by simp
  refine concat_meets ⟨_, ho, rfl⟩ ⟨_, ho2, rfl⟩ noFill_list_add seq_list_add PySem.F.slot_list_add PySem.F.entry_list_add (PySem.F.args_list_add_2 _ _) (list_addW t b vs.toArray ws.toArray n n2 dd dd2 sl sl2 (by rw [List.size_toArray, List.size_toArray, sizeLine_eq]; omega)) ⟨ho, ho2, ?_⟩
  rw [e]
  exact k _ _ (stays_push _ _) ⟨_, Heap.get?_push_size _ rfl, rfl, 0, rfl⟩
theorem Ev.addL {RR : α → Heap → Value → Prop} {xs ys : List α} {l r : Expr} {pos : Pos} (st : TStab RR) (h1 : Ev prog w A env h₀ l (IsL RR xs)) (h2 : Ev prog w A env h₀ r (IsL RR ys)) (hl : xs.length + ys.length ≤ 2000000) :
    Ev prog w A env h₀ (.BinOp l .Add r pos) (IsL RR (xs ++ ys)) :=
  h1.bin h2 (stab_l st xs) fun s x y Q E _ hx hy k => by
    obtain ⟨a, vs, rfl, ht, hr⟩ := hx
    obtain ⟨b, ws, rfl, ht2, hr2⟩ := hy
    refine add_lst ht ht2 (by rw [hr.len, hr2.len]; exact hl) fun c h' hk hc => ?_
    exact k _ h' s.toks hk ⟨c, _, rfl, hc, (hr.append hr2).tl st (.of hk)⟩
/-- a list display of one -/
theorem Ev.list1 {RR : α → Heap → Value → Prop} {x : α} {e : Expr} {pos : Pos} (st : TStab RR) (h1 : Ev prog w A env h₀ e (RR x)) (he : starEach [e] env = [(false, eval e env)] := by rfl) : Ev prog w A env h₀ (.List [e] pos) (IsL RR [x]) :=
  .list (.one h1 (st.stab x) he) (by show 1 ≤ 1000; decide) (fun g vs ⟨v, e, _⟩ => by rw [e]; rfl) fun g g' vs a hg ⟨v, e, hv⟩ ho => ⟨a, vs, rfl, ⟨_, ho, rfl, 0, rfl⟩, by rw [e]; exact ⟨st _ _ _ _ (.of hg) hv, trivial⟩⟩
theorem Ev.list2 {RR : α → Heap → Value → Prop} {x y : α} {e e' : Expr} {pos : Pos} (st : TStab RR) (h1 : Ev prog w A env h₀ e (RR x)) (h2 : Ev prog w A env h₀ e' (RR y)) (he : starEach [e, e'] env = [(false, eval e env), (false, eval e' env)] := by rfl) : Ev prog w A env h₀ (.List [e, e'] pos) (IsL RR [x, y]) :=
  .list (.two h1 h2 (st.stab x) (st.stab y) he) (by show 2 ≤ 1000; decide) (fun g vs ⟨_, _, e, _⟩ => by rw [e]; rfl) fun g g' vs a hg ⟨v, u, e, hv, hu⟩ ho => ⟨a, vs, rfl, ⟨_, ho, rfl, 0, rfl⟩, by rw [e]; exact ⟨st _ _ _ _ (.of hg) hv, st _ _ _ _ (.of hg) hu, trivial⟩⟩
/-- things said of one heap -/
abbrev Frz (R : α → Heap → Value → Prop) (g : Heap) : α → Heap → Value → Prop := fun x _ v => R x g v
theorem tstab_f {R : α → Heap → Value → Prop} {g : Heap} : TStab (Frz R g) := fun _ _ _ _ _ h => h
theorem all2_f {R : α → Heap → Value → Prop} {g h : Heap} : ∀ {xs : List α} {vs : List Value}, All2 R g xs vs → All2 (Frz R g) h xs vs
  | [], [], _ => trivial
  | _ :: _, _ :: _, ⟨a, b⟩ => ⟨a, all2_f b⟩
  | [], _ :: _, x => x.elim
  | _ :: _, [], x => x.elim
theorem IsL.frz {R : α → Heap → Value → Prop} {g : Heap} {xs : List α} {v : Value} (x : IsL R xs g v) : IsL (Frz R g) xs g v := let ⟨a, vs, e, l, r⟩ := x; ⟨a, vs, e, l, all2_f r⟩
theorem binds_nameF {R : α → Heap → Value → Prop} {g : Heap} {x : Str} {pos : Pos} (hl : env.kindOf x = some .local) (hp : (env.scope.kind == .class || (env.scope.kind == .module && env.locals != env.globals)) = false) :
    Binds prog w A env (Frz R g) (.Name x pos) (fun z m => ∃ v, m x = some v ∧ R z g v) (fun m m' => ∀ y, y ≠ x → m' y = m y) := by
  intro z v m s Q E hr hn k
  refine wpAny_assign_Name (wpAny_storeName_local hl hn (fun h' hn' hs' => ?_) hp)
  exact k h' _ _ hn' ⟨v, by simp, hr⟩ (fun y hy => by simp [hy]) hs'.extBut
theorem pair_ints {x : Int × Int} {h : Heap} {v : Value} (k : IsP x h v) : IsT IsI [x.1, x.2] h v := let ⟨a, t1, t2, e, ht⟩ := k; ⟨a, _, e, ht, ⟨t1, rfl⟩, ⟨t2, rfl⟩, trivial⟩
theorem isT_ref {R : α → Heap → Value → Prop} {xs : List α} {h g : Heap} {v : Value} {C : Addr} (k : IsT R xs h v) (hs : h.get? C = none) : v ≠ .ref C := by
  obtain ⟨a, vs, rfl, ⟨o, ho, _⟩, _⟩ := k
  intro q; cases q; rw [hs] at ho; cases ho
theorem Ev.range3 {a b c : Int} {func e e' e'' : Expr} {pos : Pos} (hc0 : c ≠ 0) (hp : Builtin.divisionGoesByPylong (b - a) c = false) (hf : Ev prog w A env h₀ func (IsV (.type "range"))) (h1 : Ev prog w A env h₀ e (IsI a)) (h2 : Ev prog w A env h₀ e' (IsI b)) (h3 : Ev prog w A env h₀ e'' (IsI c))
    (he : starEach [e, e', e''] env = [(false, eval e env), (false, eval e' env), (false, eval e'' env)] := by rfl) (hcall : eval (.Call func [e, e', e''] [] pos) env = (do callWith pos (← eval func env) [] (backTo pos (starEach [e, e', e''] env)) (backToKw pos (keywordEach [] env))) := by rfl) :
    Ev prog w A env h₀ (.Call func [e, e', e''] [] pos) (IsRg a b c) := by
  have e2 : starEach [e', e''] env = [(false, eval e' env), (false, eval e'' env)] := by
    have : starEach [e, e', e''] env = (starEach [e, e', e''] env).head?.toList ++ starEach [e', e''] env := by cases e <;> rfl
    rw [he] at this; simpa using this.symm
  refine hf.callT (.cons (R4 := fun g vs => ∃ v v' v'', vs = [v, v', v''] ∧ IsI a g v ∧ IsI b g v' ∧ IsI c g v'') h1 (.two h2 h3 stab_i stab_i e2) stab_i (fun g v vs hv ⟨v', v'', e, x, y⟩ => ⟨v, v', v'', by rw [e], hv, x, y⟩) (by rw [he, e2])) (fun s vs Q E _ hr k => ?_) (by rw [he, e2]) (by rw [e2]; rfl) hcall
  obtain ⟨_, _, _, rfl, ⟨t, rfl⟩, ⟨t2, rfl⟩, t3, rfl⟩ := hr
  exact call_range_3 hc0 (k _ _ _ (stays_push _ _) ⟨_, _, _, _, rfl, Heap.get?_push_size _ rfl⟩) (.inl hp)
end

def endsL (some : Dm) : List Int := [0 - FAR - 1] ++ (some.flatMap fun p => [p.1, p.2]) ++ [FAR + 1]
def outsideD (some : Dm) : Dm := ((rngL 0 2 (some.length + 1)).filter fun k => decide ((endsL some).getD k.toNat 0 + 1 ≤ (endsL some).getD (k.toNat + 1) 0 - 1)).map fun k => ((endsL some).getD k.toNat 0 + 1, (endsL some).getD (k.toNat + 1) 0 - 1)
theorem endsL_len (some : Dm) : (endsL some).length = 2 * some.length + 2 := by
  have : (some.flatMap fun p => [p.1, p.2]).length = 2 * some.length := by
    induction some with
    | nil => rfl
    | cons x xs ih => rw [List.flatMap_cons, List.length_append, ih]; simp; omega
  unfold endsL
  rw [List.length_append, List.length_append, this]; simp; omega
theorem flatMap_all {α : Type} (f : α → List Int) (d : List α) : d.flatMap (fun x => ((f x).filter fun _ => true).map fun y => y) = d.flatMap f := by
  congr 1; funext x; simp
theorem cl_outside {w : World} {A : Around} {mean : ExcName → Option Value} {mg mb : Str → Option Value} {h : Heap} {v : Value} {d : Dm} (c : Cx w mean mg mb h) (r : Rm A 2) (hd : IsL IsP d h v) (hl : d.length ≤ 1000) :
    Cl pg w A h (.ref 174) [v] (IsL IsP (outsideD d)) := by
  intro s Q E hs₀ k
  refine enterC (prog := pg) (binds := [("some", v)]) hs₀ c.X c.T.nolimit (by k_is) (by k_is) r.room (by rfl) (by rfl) (fun L h₁ tk hL hs hn hc hLs => ?_) (by rfl) (by rfl) (by rfl)
  have rd := fun env => r.deep (n := 1) env
  have c₁ := (c.up hs₀).up hs
  have hk : h₁.IsCell (L + 1) none := hc "ends" (L + 1) rfl
  have hd₁ := stab_l tstab_p d _ _ _ (stays_trans hs₀ hs) hd
  have hn0 : s.heap.get? (L + 1) = none := Heap.get?_none_of_le (by rw [hLs]; exact Nat.le_succ _)
  have far : ∀ {A : Around} {env : Env} {p1 p2 : Pos}, Rm A 1 → env.globals = mainGlobals → env.scope.kind = .function → env.kindOf "_law_far" = some .globalImplicit → eval (.Call (.Name "_law_far" p1) [] [] p2) env = (do callWith p2 (← eval (.Name "_law_far" p1) env) [] [] []) → Ev pg w A env h₁ (.Call (.Name "_law_far" p1) [] [] p2) (IsI FAR) := fun rr e1 e2 e3 e4 =>
    .callF0 (f := 150) (c₁.fn (by k_is)) rfl (c₁.glob (by k_is) e1 e2 e3 rfl) (fun g hg => cl_far (c₁.up hg) rr) e4
  refine wpAny_execs_cons (wpAny_Assign_Name (Ev.run (R := IsL IsI (endsL d)) (.addL tstab_i (.addL tstab_i (.list1 tstab_i (.sub (.sub .lit (far (rd _) rfl rfl rfl rfl)) .lit)) ?_ ?_) (.list1 tstab_i (.add (far (rd _) rfl rfl rfl rfl) .lit)) ?_) fun ev h2 tk2 k2 hv2 => ?_) (by rfl))
  · refine (ev_comp2 (RS := Frz IsP h₁) (RS2 := IsI) (Ro := IsI) (cl := []) (items := d) (items2 := fun x => [x.1, x.2]) (Tg := fun z m => ∃ v, m "pair" = some v ∧ IsP z h₁ v) (upd := fun m m' => ∀ q : Str, q ≠ "pair" → m' q = m q)
      (Tg2 := fun z m => ∃ t, m "v" = some (.int z t)) (upd2 := fun m m' => ∀ q : Str, q ≠ "v" → m' q = m q) (fun z m => ∃ v, m "pair" = some v ∧ IsP z h₁ v) (fun _ _ => true) (fun _ y => y)
      (rd _).hh ((Ev.loc hn rfl rfl rfl rfl).srcL (rd _).hh tstab_f hd₁.frz) tstab_i (fun C => binds_nameF rfl rfl) (fun C => binds_int rfl rfl) (.inl ⟨_, _, rfl⟩) (.inl ⟨_, _, rfl⟩) (fun x m h => h)
      (fun x m m' ⟨u, e1, e2⟩ hu => ⟨u, (hu _ (by decide)).trans e1, e2⟩) (fun C D x g m hx hg hC hD hDl hnm ⟨u, e1, e2⟩ => ?_) (fun C x y g m hx hy hg hnm ⟨u, e1, e2⟩ ⟨t, e3⟩ => ?_) ?_ (by rfl) (by decide) (by rfl) (by decide) (fun _ => rfl) (fun _ _ => rfl)).mono fun g y hy => by rw [flatMap_all (fun x : Int × Int => [x.1, x.2])] at hy; exact hy
    · refine ((nmV (prog := pg) (w := w) (x := "pair") hnm e1 rfl).on (stays_refl _) ⟨rfl, rfl, rfl⟩).mono' fun g' y hg' e => ?_
      cases e
      have e4 := pair_ints e2
      exact ⟨src_tuple (rd _).hh tstab_i (stab_t tstab_i _ _ _ _ (stays_trans hg hg') e4), isT_ref (g := h₁) e4 hC, isT_ref (g := h₁) e4 hD⟩
    · exact ⟨rfl, fun _ => (nmI (prog := pg) (w := w) (x := "v") hnm e3 rfl).on (stays_refl _) ⟨rfl, rfl, rfl⟩⟩
    · rw [flatMap_all (fun x : Int × Int => [x.1, x.2])]
      have := endsL_len d
      unfold endsL at this
      rw [List.length_append, List.length_append] at this
      simp only [List.length_singleton] at this; omega
  · have := endsL_len d
    unfold endsL at this
    rw [List.length_append, List.length_append] at this
    simp only [List.length_singleton] at this ⊢; omega
  · have := endsL_len d
    unfold endsL at this
    rw [List.length_append] at this
    simp only [List.length_singleton] at this ⊢; omega
  refine wpAny_storeName_cell (v₀ := none) rfl rfl rfl (hk.keeps k2) fun h3 hk3 hs3 => ?_
  have hv3 : IsL IsI (endsL d) h3 ev := by
    obtain ⟨a, vs, e, ⟨o, ho, hcl, n, hd⟩, ra⟩ := hv2
    refine ⟨a, vs, e, ⟨o, hs3.extBut _ _ (fun q => ?_) ho, hcl, n, hd⟩, ints_all2 (all2_ints ra)⟩
    obtain ⟨o', ho', hd'⟩ := hk.keeps k2
    rw [q, ho'] at ho; cases ho; rw [hd'] at hd; cases hd
  have st3 : s.heap.StaysIn h3 := fun b o e => hs3.extBut _ _ (fun q => by rw [q, hn0] at e; cases e) (k2 _ _ (hs _ _ e))
  have c3 := (c.up hs₀).up st3
  have nev : ∀ {A : Around} {env : Env} {h : Heap} {pos : Pos}, h3.StaysIn h → env.cells.lookup (Str.ofString "ends") = some (L + 1) → env.scope.kind = .function → env.kindOf "ends" = some .cell → Ev pg w A env h (.Name "ends" pos) (IsL IsI (endsL d)) := fun hh e1 e2 e3 =>
    (Ev.cell e1 (hk3.keeps hh) e2 e3 rfl).mono' fun g u hg e => by cases e; exact stab_l tstab_i _ _ _ _ (stays_trans hh hg) hv3
  have hln := endsL_len d
  have hsz : Builtin.Range.rangeSize 0 (endsL d).length 2 = ((d.length + 1 : Nat) : Int) := by
    rw [hln]; unfold Builtin.Range.rangeSize
    rw [if_pos (by decide)]
    split <;> omega
  have hidx : ∀ k ∈ rngL 0 2 (d.length + 1), ∃ i : Nat, k = (2 * i : Nat) ∧ i ≤ d.length := fun k hk => by
    unfold rngL at hk
    obtain ⟨i, hi, rfl⟩ := List.mem_map.mp hk
    have := List.mem_range.mp hi
    exact ⟨i, by push_cast; omega, by omega⟩
  have getE : ∀ j : Nat, j < 2 * d.length + 2 → (endsL d)[j]? = some ((endsL d).getD j 0) := fun j hj => by
    have : j < (endsL d).length := by rw [hln]; exact hj
    simp [this]
  refine wpAny_execs_cons (exec_ret (R := IsL IsP (outsideD d)) (ev_comp1 (RS := IsI) (cl := [("ends", L + 1)]) (items := rngL 0 2 (d.length + 1)) (Tg := fun z m => ∃ t, m "k" = some (.int z t)) (upd := fun m m' => ∀ q : Str, q ≠ "k" → m' q = m q)
    (fun k => decide ((endsL d).getD k.toNat 0 + 1 ≤ (endsL d).getD (k.toNat + 1) 0 - 1)) (fun k => ((endsL d).getD k.toNat 0 + 1, (endsL d).getD (k.toNat + 1) 0 - 1)) (rd _).hh
    ((Ev.range3 (a := 0) (b := (endsL d).length) (c := 2) (by decide) (PyProof.noPylong_small (by decide)) (c3.blt (ns_range w) bb_range (by decide) rfl rfl rfl rfl rfl) .lit (.len tstab_i (by omega) (c3.blt (ns_len w) bb_len (by decide) rfl rfl rfl rfl rfl) (nev (stays_refl _) rfl rfl rfl)) .lit).mono fun g u hu => src_rg (rd _).hh hsz hu).toS
    tstab_p (fun C => binds_int rfl rfl) (.inl ⟨_, _, rfl⟩) (by unfold rngL; simp; omega) (fun C x g m hx hg hnm ⟨t, e1⟩ => ?_) (by rfl) (by decide) (by rfl) (by decide) (fun _ => rfl)) fun u h4 tk4 k4 hu => ?_)
  · obtain ⟨i, rfl, hi⟩ := hidx x hx
    have nk := nmI (prog := pg) (w := w) (x := "k") hnm e1 rfl
    have i1 : ((0 : Int) ≤ ((2 * i : Nat) : Int) ∧ (endsL d)[((2 * i : Nat) : Int).toNat]? = some ((endsL d).getD ((2 * i : Nat) : Int).toNat 0)) ∨ (((2 * i : Nat) : Int) < 0 ∧ -((endsL d).length : Int) ≤ ((2 * i : Nat) : Int) ∧ (endsL d)[(((2 * i : Nat) : Int) + (endsL d).length).toNat]? = some ((endsL d).getD ((2 * i : Nat) : Int).toNat 0)) := .inl ⟨by omega, by rw [Int.toNat_natCast]; exact getE _ (by omega)⟩
    have i2 : ((0 : Int) ≤ ((2 * i : Nat) : Int) + 1 ∧ (endsL d)[(((2 * i : Nat) : Int) + 1).toNat]? = some ((endsL d).getD (((2 * i : Nat) : Int).toNat + 1) 0)) ∨ (((2 * i : Nat) : Int) + 1 < 0 ∧ -((endsL d).length : Int) ≤ ((2 * i : Nat) : Int) + 1 ∧ (endsL d)[((((2 * i : Nat) : Int) + 1) + (endsL d).length).toNat]? = some ((endsL d).getD (((2 * i : Nat) : Int).toNat + 1) 0)) := .inl ⟨by omega, by
      rw [show (((2 * i : Nat) : Int) + 1).toNat = ((2 * i : Nat) : Int).toNat + 1 by omega, Int.toNat_natCast]; exact getE _ (by omega)⟩
    refine ⟨.le (.add (.itemL tstab_i (by omega) (nev hg rfl rfl rfl) (nk.on (stays_refl _) ⟨rfl, rfl, rfl⟩) i1) .lit) (.sub (.itemL tstab_i (by omega) (nev hg rfl rfl rfl) (.add (nk.on (stays_refl _) ⟨rfl, rfl, rfl⟩) .lit) i2) .lit), fun _ => ?_⟩
    exact .pair (.add (.itemL tstab_i (by omega) (nev hg rfl rfl rfl) (nk.on (stays_refl _) ⟨rfl, rfl, rfl⟩) i1) .lit) (.sub (.itemL tstab_i (by omega) (nev hg rfl rfl rfl) (.add (nk.on (stays_refl _) ⟨rfl, rfl, rfl⟩) .lit) i2) .lit)
  · exact k u h4 tk4 (stays_trans st3 k4) hu
end Mine
end
section -- Q26
open PySem PySem.W PyProof.Rows PySem.Calls
set_option maxRecDepth 100000
set_option maxHeartbeats 400000
set_option linter.unusedVariables false
namespace Mine
theorem fill26 : (PySem.Challenge.rw_qd0006_01, Mine.hd.heap_39) = (PySem.Challenge.rw_qd0006_01, Mine.hd.heap_39) := by k_fill; rfl

/-- stands a change of a dict -/
def StD (R : Heap → Value → Prop) : Prop := ∀ (h h' : Heap) (D : Addr) (v : Value), (∀ b o, b ≠ D → h.get? b = some o → h'.get? b = some o) → (∃ o es ep, h.get? D = some o ∧ o.data = .dict es ep) → R h v → R h' v
theorem noTup_dict {h : Heap} {D : Addr} (x : ∃ o es ep, h.get? D = some o ∧ o.data = .dict es ep) : NoTup h D := by
  obtain ⟨o, es, ep, ho, hd⟩ := x
  intro o' ho' _ _ _ hd'
  rw [ho] at ho'; cases ho'; rw [hd] at hd'; cases hd'
theorem std_l {α : Type} {R : α → Heap → Value → Prop} (st : TStab R) (xs : List α) : StD (IsL R xs) := fun h h' D v k hD ⟨a, vs, e, ⟨o, ho, hc, n, hd⟩, r⟩ => by
  refine ⟨a, vs, e, ⟨o, k _ _ (fun q => ?_) ho, hc, n, hd⟩, r.tl st (TL.but k (noTup_dict hD))⟩
  obtain ⟨o', es, ep, ho', hd'⟩ := hD
  rw [q, ho'] at ho; cases ho; rw [hd'] at hd; cases hd
theorem std_i {z : Int} : StD (IsI z) := fun _ _ _ _ _ _ h => h

section
variable {prog : Program} {w : World} {A : Around} {env : Env} {h₀ : Heap}
def EvP (prog : Program) (w : World) (A : Around) (env : Env) (h₀ : Heap) (keys : List (Option Expr)) (values : List Expr) (ks : List Str) (RL : Heap → List Value → Prop) : Prop :=
  ∀ (pos : Pos) (s : Shared) (Q : List (Value × Value) → Shared → Prop) (E : Value → Shared → Prop), h₀.StaysIn s.heap →
    (∀ vs us h' tk, s.heap.StaysIn h' → Carries (PySem.strKind prog w) vs (ks.zip us) → us.length = ks.length → RL h' us → Q vs { s with heap := h', toks := tk }) → wpAny (model prog w) A (evalPairs (pairTrees keys values env pos)) Q E s
theorem EvP.nil : EvP prog w A env h₀ [] [] [] (fun _ us => us = []) := fun pos s Q E _ k => pairTrees_nil_walk (k [] [] s.heap s.toks (stays_refl _) trivial rfl rfl)
theorem EvP.cons {key : Str} {kk : Nat} {kp : Pos} {e : Expr} {keys : List (Option Expr)} {values : List Expr} {ks : List Str} {R : Heap → Value → Prop} {RL : Heap → List Value → Prop} (st : Stab R) (h1 : Ev prog w A env h₀ e R) (h2 : EvP prog w A env h₀ keys values ks RL) :
    EvP prog w A env h₀ (some (.Constant (.str key) kk kp) :: keys) (e :: values) (key :: ks) (fun h us => ∃ v vs, us = v :: vs ∧ R h v ∧ RL h vs) := fun pos s Q E hs k => by
  refine pairTrees_cons_walk (Ev.strS (h₀ := s.heap) _ _ E (stays_refl _) fun kv h1' tk1 hk1 hkv => h1 _ _ E (stays_trans hs hk1) fun v h2' tk2 hk2 hv => ?_)
  refine h2 pos _ _ E (stays_trans hs (stays_trans hk1 hk2)) fun vs us h3 tk3 hk3 hc hl hr => ?_
  obtain ⟨t, rfl⟩ := hkv
  exact k ((.str key t, v) :: vs) (v :: us) h3 tk3 (stays_trans hk1 (stays_trans hk2 hk3)) ⟨PySem.strKind_is prog w key t, rfl, hc⟩ (by simp [hl]) ⟨v, us, rfl, st _ _ _ hk3 hv, hr⟩
/-- a dict written out -/
theorem Ev.dictD {keys : List (Option Expr)} {values : List Expr} {ks : List Str} {RL : Heap → List Value → Prop} {pos : Pos} (h : EvP prog w A env h₀ keys values ks RL)
    (hst : ∀ (h h' : Heap) (D : Addr) (us : List Value), (∀ b o, b ≠ D → h.get? b = some o → h'.get? b = some o) → (∃ o es ep, h.get? D = some o ∧ o.data = .dict es ep) → RL h us → RL h' us)
    (hall : keys.all (·.isSome) = true) (hl : keys.length = values.length) (h0 : keys ≠ []) (hlen : keys.length ≤ 15) :
    Ev prog w A env h₀ (.Dict keys values pos) (fun g v => ∃ D us, v = .ref D ∧ g.DictOf (PySem.strKind prog w) D (merged [] (ks.zip us)) ∧ us.length = ks.length ∧ RL g us ∧ h₀.get? D = Option.none) := fun s Q E hs k => by
  refine wpAny_Dict_walk (knd := PySem.strKind prog w) hall hl h0 hlen ?_
  have hfr : s.heap.get? s.heap.objs.size = none := Heap.get?_none_of_le (Nat.le_refl _)
  refine h pos _ _ E (stays_trans hs (stays_push _ _)) fun vs us h' tk hk hc hul hr => ?_
  dsimp only at hk
  have hnew : h'.DictOf (PySem.strKind prog w) s.heap.objs.size [] := (Heap.DictOf.new (knd := PySem.strKind prog w) s.heap).keep hk
  refine ⟨ks.zip us, hc, hnew, fun h2 hd2 hs2 => ?_⟩
  refine k _ h2 _ (fun b o e => hs2.extBut _ _ (fun q => by rw [q, hfr] at e; cases e) (hk _ _ (stays_push _ _ _ _ e))) ⟨_, us, rfl, hd2, hul, hst h' h2 _ us hs2.extBut ?_ hr, ?_⟩
  · obtain ⟨o, es, ep, ho, _, hd, _⟩ := hnew; exact ⟨o, es, ep, ho, hd⟩
  · cases q : h₀.get? s.heap.objs.size with
    | none => rfl
    | some o => have := hs _ _ q; rw [hfr] at this; cases this
theorem Ev.dictN {c : Addr} {kvs : List (Str × Value)} {key : Str} {v : Value} {e ei : Expr} {pos : Pos} (h1 : Ev prog w A env h₀ e (IsV (.ref c))) (h2 : Ev prog w A env h₀ ei (IsS key)) (hd : h₀.DictOf (PySem.strKind prog w) c kvs) (hv : valueAt kvs key = some v)
    (hs : ∀ t, subscripted ei false (.ref c) (.str key t) = operate [.ref c, .str key t] (getItem (.ref c) (.str key t)) := by intro _; with_unfolding_all rfl) : Ev prog w A env h₀ (.Subscript e ei pos) (IsV v) := fun s Q E hs' kk => by
  refine Subscript_ (h1 s _ E hs' fun o h' tk hk ho => h2 _ _ E (stays_trans hs' hk) fun iv h2' tk2 hk2 hiv => ?_)
  cases ho
  obtain ⟨t, rfl⟩ := hiv
  have hd2 := hd.keep (fun b o e => hk2 _ _ (hk _ _ (hs' b o e)))
  exact tail_any hd2.typeIs slot_dict_getitem.lookup (wpAny_getItem_of (PySem.strKind_is prog w key t) hd2.mapOf hv (kk _ h2' _ (stays_trans hk hk2) rfl)) (hs t)
end

def winD (sg : Str) (k : Int) : Dm := if sq sg "<=" then [(0 - FAR, k)] else if sq sg ">=" then [(k, FAR)] else if sq sg "=" then [(k, k)] else [(0 - FAR, k - 1), (k + 1, FAR)]
def IsSg (sg : Str) : Prop := sg = Str.ofString "<=" ∨ sg = Str.ofString ">=" ∨ sg = Str.ofString "!=" ∨ sg = Str.ofString "="
def saidD (d : Dm) (sg : Str) (k : Int) : Dm := commonD d (winD sg k)
set_option maxHeartbeats 400000 in
theorem cl_said {w : World} {A : Around} {mean : ExcName → Option Value} {mg mb : Str → Option Value} {h : Heap} {v : Value} {d : Dm} {sg : Str} {k : Int} {ts tk0 : Tok} (c : Cx w mean mg mb h) (r : Rm A 3) (hd : IsL IsP d h v) (hsg : IsSg sg) (hl : (commonL d (winD sg k)).length < 64) :
    Cl pg w A h (.ref 181) [v, .str sg ts, .int k tk0] (IsN h IsP (saidD d sg k)) := by
  intro s Q E hs₀ kk
  refine enterC (prog := pg) (binds := [("some", v), ("sign", .str sg ts), ("k", .int k tk0)]) hs₀ c.X c.T.nolimit (by k_is) (by k_is) r.room (by rfl) (by rfl) (fun L h₁ tk hL hs hn _ _ => ?_) (by rfl) (by rfl) (by rfl)
  have rd := fun env => r.deep (n := 2) env
  have c₁ := (c.up hs₀).up hs
  have far : ∀ {A : Around} {env : Env} {p1 p2 : Pos}, Rm A 1 → env.globals = mainGlobals → env.scope.kind = .function → env.kindOf "_law_far" = some .globalImplicit → eval (.Call (.Name "_law_far" p1) [] [] p2) env = (do callWith p2 (← eval (.Name "_law_far" p1) env) [] [] []) → Ev pg w A env h₁ (.Call (.Name "_law_far" p1) [] [] p2) (IsI FAR) := fun rr e1 e2 e3 e4 =>
    .callF0 (f := 150) (c₁.fn (by k_is)) rfl (c₁.glob (by k_is) e1 e2 e3 rfl) (fun g hg => cl_far (c₁.up hg) rr) e4
  have nk := nmI (prog := pg) (w := w) (x := "k") hn rfl rfl
  have r1 : ∀ env, Rm (A.deeper env) 1 := fun env => (rd env).less (by decide)
  refine wpAny_execs_cons ?_
  generalize hde : Expr.Dict _ _ _ = de
  refine exec_asn (R := fun g v => ∃ D us, v = .ref D ∧ g.DictOf (PySem.strKind pg w) D (merged [] (List.zip ["<=", ">=", "=", "!="] us)) ∧ us.length = (["<=", ">=", "=", "!="] : List Str).length ∧ (∃ v vs, us = v :: vs ∧ IsL IsP [(0 - FAR, k)] g v ∧ ∃ v' vs', vs = v' :: vs' ∧ IsL IsP [(k, FAR)] g v' ∧ ∃ v2 vs2, vs' = v2 :: vs2 ∧ IsL IsP [(k, k)] g v2 ∧ ∃ v3 vs3, vs2 = v3 :: vs3 ∧ IsL IsP [(0 - FAR, k - 1), (k + 1, FAR)] g v3 ∧ vs3 = []) ∧ h₁.get? D = none) ?_ hn rfl rfl ?_ fun wv h2 h3 tk3 k2 hw k3 hn3 => ?_
  · subst hde
    with_reducible refine Ev.dictD (ks := ["<=", ">=", "=", "!="]) (RL := fun h us => ∃ v vs, us = v :: vs ∧ IsL IsP [(0 - FAR, k)] h v ∧ ∃ v' vs', vs = v' :: vs' ∧ IsL IsP [(k, FAR)] h v' ∧ ∃ v2 vs2, vs' = v2 :: vs2 ∧ IsL IsP [(k, k)] h v2 ∧ ∃ v3 vs3, vs2 = v3 :: vs3 ∧ IsL IsP [(0 - FAR, k - 1), (k + 1, FAR)] h v3 ∧ vs3 = []) ?_ ?_ ?ha ?hb ?hc ?hd
    case ha => rfl
    case hb => rfl
    case hc => simp
    case hd => decide
    · refine .cons (stab_l tstab_p _) (.list1 tstab_p (.pair (.sub .lit (far (r1 _) rfl rfl rfl rfl)) (nk.on (stays_refl _) ⟨rfl, rfl, rfl⟩))) ?_
      refine .cons (stab_l tstab_p _) (.list1 tstab_p (.pair (nk.on (stays_refl _) ⟨rfl, rfl, rfl⟩) (far (r1 _) rfl rfl rfl rfl))) ?_
      refine .cons (stab_l tstab_p _) (.list1 tstab_p (.pair (nk.on (stays_refl _) ⟨rfl, rfl, rfl⟩) (nk.on (stays_refl _) ⟨rfl, rfl, rfl⟩))) ?_
      refine .cons (stab_l tstab_p _) (.list2 tstab_p (.pair (.sub .lit (far (r1 _) rfl rfl rfl rfl)) (.sub (nk.on (stays_refl _) ⟨rfl, rfl, rfl⟩) .lit)) (.pair (.add (nk.on (stays_refl _) ⟨rfl, rfl, rfl⟩) .lit) (far (r1 _) rfl rfl rfl rfl))) ?_
      exact .nil
    · rintro h h' D us kw hD ⟨v1, u1, rfl, a1, v2, u2, rfl, a2, v3, u3, rfl, a3, v4, u4, rfl, a4, rfl⟩
      exact ⟨v1, _, rfl, std_l tstab_p _ _ _ D _ kw hD a1, v2, _, rfl, std_l tstab_p _ _ _ D _ kw hD a2, v3, _, rfl, std_l tstab_p _ _ _ D _ kw hD a3, v4, _, rfl, std_l tstab_p _ _ _ D _ kw hD a4, rfl⟩
  · subst hde; rfl
  obtain ⟨D, us, rfl, hdict, _, ⟨v1, u1, rfl, a1, v2, u2, rfl, a2, v3, u3, rfl, a3, v4, u4, rfl, a4, rfl⟩, hDn⟩ := hw
  have hn2 := hn.keeps k2
  have hDL : D ≠ L := fun q => by obtain ⟨o, _, _, ho, _⟩ := hn; rw [q, ho] at hDn; cases hDn
  have k3e : ∀ b o, b ≠ L → h2.get? b = some o → h3.get? b = some o := k3.extBut
  have hd3 : h3.DictOf (PySem.strKind pg w) D [("<=", v1), (">=", v2), ("=", v3), ("!=", v4)] := (show h2.DictOf (PySem.strKind pg w) D [("<=", v1), (">=", v2), ("=", v3), ("!=", v4)] from hdict).at fun o e => k3e _ o hDL e
  have hLd : ∃ o es ep, h2.get? L = some o ∧ o.data = .dict es ep := by obtain ⟨o, es, ep, ho, hd, _⟩ := hn2; exact ⟨o, es, ep, ho, hd⟩
  have a1' := std_l tstab_p _ _ _ L _ k3e hLd a1
  have a2' := std_l tstab_p _ _ _ L _ k3e hLd a2
  have a3' := std_l tstab_p _ _ _ L _ k3e hLd a3
  have a4' := std_l tstab_p _ _ _ L _ k3e hLd a4
  have st3 : s.heap.StaysIn h3 := fun b o eb => k3e b o (fun q => by rw [q, hL] at eb; cases eb) (k2 _ _ (hs _ _ eb))
  have c3 := (c.up hs₀).up st3
  have hsome3 := stab_l tstab_p _ _ _ _ (stays_trans hs₀ st3) hd
  obtain ⟨wv, hwv, hwl⟩ : ∃ wv, valueAt [(Str.ofString "<=", v1), (">=", v2), ("=", v3), ("!=", v4)] sg = some wv ∧ IsL IsP (winD sg k) h3 wv := by
    rcases hsg with rfl | rfl | rfl | rfl
    · exact ⟨v1, rfl, a1'⟩
    · exact ⟨v2, rfl, a2'⟩
    · exact ⟨v4, rfl, a4'⟩
    · exact ⟨v3, rfl, a3'⟩
  have nsg : Nm pg w h3 L "sign" (IsS sg) := ⟨fun hg ⟨e1, e2, e3⟩ => (Ev.loc (e1 ▸ hn3.keeps hg) rfl e2 e3 rfl).mono fun _ _ e => ⟨ts, e⟩⟩
  have nsome := nmL (prog := pg) (w := w) (x := "some") tstab_p hn3 rfl hsome3 rfl
  have nwin := nmV (prog := pg) (w := w) (x := "windows") hn3 rfl rfl
  refine wpAny_execs_cons (exec_ret (R := IsN h3 IsP (saidD d sg k)) (.callF (f := 169) (c3.fn (by k_is)) rfl (c3.glob (by k_is) rfl rfl rfl rfl) (.two (nsome.on (stays_refl _) ⟨rfl, rfl, rfl⟩) ((Ev.dictN (nwin.on (stays_refl _) ⟨rfl, rfl, rfl⟩) (nsg.on (stays_refl _) ⟨rfl, rfl, rfl⟩) hd3 hwv (by intro _; with_unfolding_all rfl)).mono' fun g u hg e => (by cases e; exact stab_l tstab_p _ _ _ _ hg hwl : IsL IsP (winD sg k) g u)) (stab_l tstab_p d) (stab_l tstab_p _)) (fun g vs hg hv => ?_)) fun v h4 tk4 k4 hv => ?_)
  · obtain ⟨_, _, rfl, e1, e2⟩ := hv
    exact fun s' Q' E' hs' kk' => cl_common (c3.up hg) (rd _) e1 e2 hl s' Q' E' hs' fun v h' tk a b => kk' v h' tk a (b.base hg)
  · exact kk v h4 tk4 (stays_trans st3 k4) (hv.base (stays_trans hs₀ st3))
end Mine
end
section -- Q27
open PySem PySem.W PyProof.Rows PySem.Calls
set_option maxRecDepth 100000
set_option maxHeartbeats 400000
set_option linter.unusedVariables false
namespace Mine
theorem fill27 : (PySem.Challenge.rw_qd0006_01, Mine.hd.heap_39) = (PySem.Challenge.rw_qd0006_01, Mine.hd.heap_39) := by k_fill; rfl

def stepD (d : Dm) : Nat → Int → List Int
  | 0, _ => []
  | n + 1, v => match nextFrom d v with
    | none => []
    | some z => z :: stepD d n (z + 1)
theorem cl_stepped {w : World} {A : Around} {mean : ExcName → Option Value} {mg mb : Str → Option Value} {h : Heap} {dv : Value} {d : Dm} {many : Nat} {tm : Tok} (c : Cx w mean mg mb h) (r : Rm A 3) (hd : IsT IsP d h dv) (hm : many ≤ 1000) :
    Cl pg w A h (.ref 193) [dv, .int many tm] (IsL IsI (stepD d (many + 1) (0 - FAR))) := by
  intro s Q E hs₀ k
  refine enterC (prog := pg) (binds := [("d", dv), ("many", .int many tm)]) hs₀ c.X c.T.nolimit (by k_is) (by k_is) r.room (by rfl) (by rfl) (fun L h₁ tk hL hs hn _ _ => ?_) (by rfl) (by rfl) (by rfl)
  have rd := fun env => r.deep (n := 2) env
  have cs := c.up hs₀
  have c₁ := cs.up hs
  obtain ⟨m1, hn, md1, mm1⟩ : ∃ m1, h₁.Ns L m1 ∧ m1 "d" = some dv ∧ m1 "many" = some (.int many tm) := ⟨_, hn, rfl, rfl⟩
  have far : ∀ {A : Around} {env : Env} {p1 p2 : Pos}, Rm A 1 → env.globals = mainGlobals → env.scope.kind = .function → env.kindOf "_law_far" = some .globalImplicit → eval (.Call (.Name "_law_far" p1) [] [] p2) env = (do callWith p2 (← eval (.Name "_law_far" p1) env) [] [] []) → Ev pg w A env h₁ (.Call (.Name "_law_far" p1) [] [] p2) (IsI FAR) := fun rr e1 e2 e3 e4 =>
    .callF0 (f := 150) (c₁.fn (by k_is)) rfl (c₁.glob (by k_is) e1 e2 e3 rfl) (fun g hg => cl_far (c₁.up hg) rr) e4
  refine wpAny_execs_cons (exec_tup2 (m := m1) (R2 := fun g v1 v2 => New0 h₁ g v1 ∧ IsI (0 - FAR) g v2) (rd _).hh (.tuple (R3 := fun g vs => ∃ v1 v2, vs = [v1, v2] ∧ New0 h₁ g v1 ∧ IsI (0 - FAR) g v2)
    (.two .newL (.sub .lit (far ((rd _).less (by decide)) rfl rfl rfl rfl)) stab_new stab_i) (by show 2 ≤ 1000; decide) (fun g vs ⟨_, _, e, _⟩ => by rw [e]; rfl)
    (fun g g' vs a hg ⟨v1, v2, e, h1, h2⟩ ht => ⟨a, v1, v2, rfl, by rw [e] at ht; exact ht, stab_new _ _ _ hg h1, h2⟩)) hn rfl rfl rfl (by rfl) (by rfl) ?_)
  rintro v1 v2 h2 h3 tk3 hk2 ⟨⟨fa, rfl, hf2, hfn⟩, ⟨t2, rfl⟩⟩ hk3 hn3
  have hfL : fa ≠ L := fun q => by obtain ⟨o, _, _, ho, _⟩ := hn; rw [q, ho] at hfn; cases hfn
  have hf3 : LS h3 fa [] := by obtain ⟨n, en⟩ := hf2; exact ⟨n, hk3 _ _ hfL en⟩
  have st3 : s.heap.StaysIn h3 := fun b o eb => hk3 b o (fun q => by have q' : b = L := q; rw [q', hL] at eb; cases eb) (hk2 _ _ (hs _ _ eb))
  have hsf : s.heap.get? fa = none := by
    cases eq : s.heap.get? fa with
    | none => rfl
    | some o => have := hs _ _ eq; rw [hfn] at this; cases this
  have out : ∀ {h'}, Kw [L, fa] h3 h' → s.heap.StaysIn h' := fun kw => kw.stays st3 (by simp [hL, hsf])
  have c3 := cs.up st3
  have hWo : ∀ a ∈ [L, fa], (∃ o, h3.get? a = some o ∧ ∀ fs, o.data ≠ .fields fs) ∧ NoTup h3 a := fun a ha => by
    rcases List.mem_cons.mp ha with rfl | ha
    · obtain ⟨o, _, _, ho, hd, _⟩ := id hn3; exact ⟨⟨o, ho, fun fs q => by rw [hd] at q; cases q⟩, noTup_ns hn3⟩
    · rw [List.mem_singleton.mp ha]; obtain ⟨n, e⟩ := id hf3; exact ⟨⟨_, e, fun fs q => by cases q⟩, hf3.noTup⟩
  refine wpAny_execs_cons (for_rule (RS := IsI) (items := rngL 0 1 (many + 1)) (W := [L, fa]) (Inv := fun pre h m => m "found" = some (.ref fa) ∧ m "d" = some dv ∧ ∃ v t, m "v" = some (.int v t) ∧ ∃ acc vs, LS h fa vs ∧ All2 IsI h acc vs ∧ acc.length = pre.length ∧ acc ++ stepD d (many + 1 - pre.length) v = stepD d (many + 1) (0 - FAR))
    ((Ev.range1 (b := (many : Int) + 1) (c3.blt (ns_range w) bb_range (by decide) rfl rfl rfl rfl rfl) (.add ((nmI (x := "many") (i := many) (t := tm) hn3 mm1 rfl).on (stays_refl _) ⟨rfl, rfl, rfl⟩) .lit)).mono' fun h u hh hu => ⟨src_rg (rd _).hh (by have := rangeSize1 (many + 1); push_cast at this ⊢; exact this) hu, fun a ha => ?_⟩)
    (fun a ha => ⟨let ⟨⟨o, ho, _⟩, _⟩ := hWo a ha; ⟨o, ho⟩, (hWo a ha).2⟩) (by simp [envOfC]) (binds_int rfl rfl) (.inl ⟨_, _, rfl⟩) hn3 (fun h' hk => ⟨rfl, md1, 0 - FAR, t2, rfl, [], [], hf3.st hk, trivial, rfl, rfl⟩)
    (fun pre h h' m ⟨x1, x2, v, t, x3, acc, vs, l, a, r3⟩ lk => ⟨x1, x2, v, t, x3, acc, vs, l.lk lk, ints_all2 (all2_ints a), r3⟩)
    (fun pre h m m' ⟨x1, x2, v, t, x3, r3⟩ u => ⟨(u _ (by decide)).trans x1, (u _ (by decide)).trans x2, v, t, (u _ (by decide)).trans x3, r3⟩) ?_ ?_ (fun _ => rfl))
  · obtain ⟨⟨o, ho, hd⟩, _⟩ := hWo a ha
    exact rg_ne hu (hh _ _ ho) hd
  · rintro pre x post s' m' hit hkw hn' ⟨tl, el⟩ ⟨xf, xd, v, t, xv, acc, vs, hl, ha, hlen, heq⟩ ⟨h', tk', rfl⟩
    have hpl : pre.length + 1 ≤ many + 1 := by
      have := congrArg List.length hit
      rw [List.length_append, List.length_cons] at this
      unfold rngL at this
      simp at this; omega
    have c' := cs.up (out hkw)
    have hd' := stab_t tstab_p _ _ _ _ (stays_trans hs₀ (out hkw)) hd
    have nd := nmT (prog := pg) (w := w) (x := "d") tstab_p hn' xd hd' rfl
    have nv := nmI (prog := pg) (w := w) (x := "v") hn' xv rfl
    refine wpAny_execs_cons (exec_asn (R := fun h' u => match nextFrom d v with | some z => IsI z h' u | none => u = .none) (.callF (f := 81) (c'.fn (by k_is)) rfl (c'.glob (by k_is) rfl rfl rfl rfl) (.two (nd.on (stays_refl _) ⟨rfl, rfl, rfl⟩) (nv.on (stays_refl _) ⟨rfl, rfl, rfl⟩) (stab_t tstab_p d) stab_i) (fun g vs hg hv => ?_)) hn' rfl rfl (by rfl) fun u h4 h5 tk5 k4 hu k5 hn5 => ?_)
    · obtain ⟨_, _, rfl, e1, u, rfl⟩ := hv
      exact cl_next_from (c'.up hg) (rd _) e1
    have k5e : ∀ b o, b ≠ L → h4.get? b = some o → h5.get? b = some o := k5.extBut
    have kw5 : Kw [L, fa] h' h5 := fun b o nb e => k5e b o (fun q => nb (by simp [q])) (k4 _ _ e)
    have hl5 : LS h5 fa vs := by obtain ⟨n, e⟩ := hl.st k4; exact ⟨n, k5e _ _ hfL e⟩
    have hst : stepD d (many + 1 - pre.length) v = match nextFrom d v with | none => [] | some z => z :: stepD d (many + 1 - (pre.length + 1)) (z + 1) := by
      rw [show many + 1 - pre.length = (many + 1 - (pre.length + 1)) + 1 by omega]; rfl
    rw [hst] at heq
    have nf5 := nmV (prog := pg) (w := w) (x := "found") hn5 xf rfl
    cases hnx : nextFrom d v with
    | none =>
      rw [hnx] at hu heq
      dsimp only at hu heq
      subst hu
      have nv5 := nmV (prog := pg) (w := w) (x := "v") (v := Value.none) hn5 rfl rfl
      refine wpAny_execs_cons (exec_if (b := true) (.isNone (v := Value.none) (nv5.on (stays_refl _) ⟨rfl, rfl, rfl⟩) (fun _ _ e => by cases e; rfl) stab_v) fun h6 tk6 k6 => ⟨fun _ => ?_, fun q => by cases q⟩)
      refine wpAny_execs_cons (exec_ret (R := IsV (.ref fa)) (nf5.on k6 ⟨rfl, rfl, rfl⟩) fun y h7 tk7 k7 hy => ?_)
      cases hy
      refine k _ h7 tk7 (out ((hkw.trans kw5).trans (.of (stays_trans k6 k7)))) ⟨fa, vs, rfl, ((hl5.st k6).st k7).isList, ?_⟩
      rw [← heq, List.append_nil]; exact ints_all2 (all2_ints ha)
    | some z =>
      rw [hnx] at hu heq
      dsimp only at hu heq
      obtain ⟨tz, rfl⟩ := hu
      have nv5 := nmI (prog := pg) (w := w) (x := "v") (i := z) (t := tz) hn5 rfl rfl
      refine wpAny_execs_cons (exec_if (b := false) (.isNone (v := Value.none) (nv5.on (stays_refl _) ⟨rfl, rfl, rfl⟩) (fun _ y hy => by obtain ⟨_, rfl⟩ := hy; rfl) stab_i) fun h6 tk6 k6 => ⟨fun q => absurd q (by decide), fun _ => wpAny_execs_nil ?_⟩)
      refine wpAny_execs_cons (exec_append (vs := vs) (R := IsI z) (nf5.on k6 ⟨rfl, rfl, rfl⟩) (nv5.on k6 ⟨rfl, rfl, rfl⟩) (hl5.st k6) (by have := ha.len; omega) (fun y h8 h9 tk9 j1 j2 j3 j4 => ?_) rfl rfl ⟨_, rfl⟩)
      have hn9 : h9.Ns L _ := ((hn5.keeps k6).keeps j1).at' fun o eo => j3 _ o (Ne.symm hfL) eo
      have nv9 := nmI (prog := pg) (w := w) (x := "v") (i := z) (t := tz) hn9 rfl rfl
      refine wpAny_execs_cons (exec_asn (R := IsI (z + 1)) (.add (nv9.on (stays_refl _) ⟨rfl, rfl, rfl⟩) .lit) hn9 rfl rfl (by rfl) fun u h10 h11 tk11 q1 q2 q3 q4 => wpAny_execs_nil ?_)
      obtain ⟨tu, rfl⟩ := q2
      have q3e : ∀ b o, b ≠ L → h10.get? b = some o → h11.get? b = some o := q3.extBut
      refine ⟨h11, tk11, _, rfl, kw5.trans (fun b o nb e => q3e b o (fun q => nb (by simp [q])) (q1 _ _ (j3 b o (fun q => nb (by simp [q])) (j1 _ _ (k6 _ _ e))))), q4, xf, xd, z + 1, tu, by simp, acc ++ [z], vs ++ [y], ?_, ?_, by simp [hlen], ?_⟩
      · obtain ⟨n, e⟩ := j4; exact ⟨n, q3e _ _ hfL (q1 _ _ e)⟩
      · exact (ints_all2 (all2_ints ha) : All2 IsI h11 acc vs).snoc j2
      · rw [List.length_append, List.length_singleton, List.append_assoc]; exact heq
  · rintro h' tk' m' hkw hn' ⟨xf, xd, v, t, xv, acc, vs, hl, ha, hlen, heq⟩
    have hlen' : (rngL 0 1 (many + 1)).length = many + 1 := by unfold rngL; simp
    rw [hlen', Nat.sub_self] at heq
    refine wpAny_execs_cons (exec_ret (R := IsV (.ref fa)) ((nmV (prog := pg) (w := w) (x := "found") hn' xf rfl).on (stays_refl _) ⟨rfl, rfl, rfl⟩) fun y h14 tk14 k14 hy => ?_)
    cases hy
    refine k _ h14 tk14 (stays_trans (out hkw) k14) ⟨fa, vs, rfl, (hl.st k14).isList, ?_⟩
    rw [← heq]; unfold stepD; rw [List.append_nil]; exact ints_all2 (all2_ints ha)
end Mine
end
section -- Q28
open PySem PySem.W PyProof.Rows PySem.Calls
set_option maxRecDepth 100000
set_option maxHeartbeats 400000
set_option linter.unusedVariables false
namespace Mine
section
variable {prog : Program} {w : World} {A : Around} {R : Result → Shared → Prop} {I : Addr} {fp : List Addr} {n : Nat} {P : Nat → Value → Prop} {St : Nat → Heap → Prop}
theorem ls_update {h : Heap} {S : Addr} {acc : List Value} {f : Array Value → Array Value} {us : List Value} (hl : LS h S acc) (e : f acc.toArray = us.toArray) : LS (h.update S (Obj.mapSeq f)) S us := by
  obtain ⟨m, hm⟩ := hl
  have := get?_update_seq (c := "list") hm f
  rw [e] at this
  exact ⟨_, this⟩
theorem ext_loop (W : Walks prog w A.in1 I fp [I] n P St) (S : Addr) (hSf : S ∉ fp) (res : Value) :
    ∀ (k i : Nat) (s : Shared) (acc : List Value), n - i = k → i ≤ n → St i s.heap → LS s.heap S acc → acc.length + k ≤ 1000000 →
    (∀ h' tk us, (∀ b o, b ≠ S → b ≠ I → s.heap.get? b = some o → h'.get? b = some o) → LS h' S (acc ++ us) → us.length = k → (∀ j v, us[j]? = some v → P (i + j) v) → R (.ok (.ret res)) { s with heap := h', toks := tk }) →
    codeAny (model prog w) A (.builtin "list.extend.loop" ⟨[.ref S, .ref I, res], []⟩) R s := by
  have hSI : S ≠ I := fun e => hSf (e ▸ W.sub I (List.mem_singleton.mpr rfl))
  intro k
  induction k with
  | zero =>
    intro i s acc hk hi hst hS hsz hR
    have hin : i = n := by omega
    subst hin
    refine codeAny_builtin F.entry_extend_loop ?_
    rw [Around.under_plainId F.plain_extend_loop _]
    show wpAny _ A.in1 (pyNext (.ref I) >>= _) _ _ s
    refine wpAny_bind (W.done s _ _ hst fun h' tk hm => ?_)
    refine wpAny_pure (hR h' tk [] (fun b o _ b2 e => hm b o (by simpa using b2) e) ?_ rfl (by simp))
    rw [List.append_nil]
    obtain ⟨m, e⟩ := hS; exact ⟨m, hm _ _ (by simpa using hSI) e⟩
  | succ k ih =>
    intro i s acc hk hi hst hS hsz hR
    have hlt : i < n := by omega
    refine codeAny_builtin F.entry_extend_loop ?_
    rw [Around.under_plainId F.plain_extend_loop _]
    show wpAny _ A.in1 (pyNext (.ref I) >>= _) _ _ s
    refine wpAny_bind (W.item i s _ _ hlt hst fun v h' tk hP hst' hm => ?_)
    have hS' : LS h' S acc := by obtain ⟨m, e⟩ := hS; exact ⟨m, hm _ _ (by simpa using hSI) e⟩
    obtain ⟨m, em⟩ := id hS'
    show wpAny _ A.in1 (updateSeq S (·.push v) >>= _) _ _ _
    refine wpAny_bind (wpAny_updateSeq em rfl ?_ (by rw [List.size_toArray, sizeLine_eq]; omega) (by show (acc.toArray.push v).size ≤ sizeLine + 1; rw [Array.size_push, List.size_toArray, sizeLine_eq]; omega))
    refine wpAny_pure ⟨plainId_quiet F.plain_extend_loop _, ih (i + 1) _ (acc ++ [v]) (by omega) hlt (W.frame _ h' _ hst' fun b hb o e => ?_) (ls_update hS' (by simp)) (by rw [List.length_append, List.length_singleton]; omega) fun h2 tk2 us k2 l2 e2 p2 => ?_⟩
    · exact (Heap.get?_update_other _ _ (fun h : S = b => hSf (by rw [h]; exact hb))).trans e
    · refine hR h2 tk2 (v :: us) (fun b o b1 b2 e => k2 b o b1 b2 ((Heap.get?_update_other _ _ (Ne.symm b1)).trans (hm b o (by simpa using b2) e))) (by simpa using l2) (by simp [e2]) fun j u hj => ?_
      cases j with
      | zero => simp at hj; subst hj; exact hP
      | succ j => have := p2 j u (by simpa using hj); rwa [show i + 1 + j = i + (j + 1) by omega] at this
end
theorem all2_of_get {h : Heap} : ∀ {xs : List Int} {us : List Value}, us.length = xs.length → (∀ (j : Nat) (v : Value), us[j]? = some v → ∃ x, xs[j]? = some x ∧ IsI x h v) → All2 IsI h xs us
  | [], [], _, _ => trivial
  | x :: xs, u :: us, hl, k => by
    obtain ⟨y, hy, hr⟩ := k 0 u rfl
    simp at hy; subst hy
    exact ⟨hr, all2_of_get (by simpa using hl) fun j v hj => by simpa using k (j + 1) v (by simpa using hj)⟩
  | [], _ :: _, hl, _ => by simp at hl
  | _ :: _, [], hl, _ => by simp at hl
section
variable {prog : Program} {w : World} {A : Around} {E : Value → Shared → Prop} {s : Shared}
theorem call_extend {S : Addr} {acc : List Value} {a b c : Int} {n : Nat} {v : Value} {Q : Value → Shared → Prop} (hh : A.handled = none) (hl : LS s.heap S acc) (hr : IsRg a b c s.heap v) (hn : Builtin.Range.rangeSize a b c = n) (hsz : acc.length + n ≤ 1000000)
    (k : ∀ h' tk us, (∀ b o, b ≠ S → s.heap.get? b = some o → h'.get? b = some o) → LS h' S (acc ++ us) → All2 IsI h' (rngL a c n) us → Q .none { s with heap := h', toks := tk }) :
    wpAny (model prog w) A (call (.builtin "list.extend") [.ref S, v]) Q E s := by
  obtain ⟨r, t, u, x, rfl, hr'⟩ := id hr
  obtain ⟨m, hS⟩ := id hl
  have hSr : S ≠ r := fun e => by rw [e, hr'] at hS; simp [W.listOf] at hS
  have hSlt : S < s.heap.objs.size := Heap.lt_size hS
  refine wpAny_call (codeAny_call_builtin F.slot_list_extend.plain F.entry_list_extend (F.slot_list_extend.check _ _ _ _ _ _ _ _ ⟨_, hS, rfl⟩ (F.args_list_extend_2 _ _) ?_))
  show wpAny _ _ (Builtin.List.listExtendWith (.ref S) (.ref r) .none) _ _ _
  unfold Builtin.List.listExtendWith
  refine wpAny_bind (wpAny_typeOf (T := "range") ⟨_, hr', rfl⟩ ?_)
  have h1 : Builtin.List.listSameRef (.ref S) (.ref r) = false := by simp [Builtin.List.listSameRef, hSr]
  have h2 : (Value.type "range" == Value.type "list") = false := by decide
  have h3 : (Value.type "range" == Value.type "tuple") = false := by decide
  simp only [h1, h2, h3, Bool.or_false, Bool.false_eq_true, if_false]
  refine wpAny_bind (src_rg (prog := prog) (w := w) (A := A.in1) hh hn hr s _ _ (stays_refl _) fun I fp P St h' W hst hk hI hfp hInt hfpx hit hgo => ?_)
  have hlen : (rngL a c n).length = n := by unfold rngL; simp
  rw [hlen] at W
  have hSf : S ∉ fp := fun q => by
    rcases hfpx S q with e | e
    · rw [e, hI] at hS; cases hS
    · cases e; exact hSr rfl
  have key : ∀ (h : Heap) (tk : Nat), St 0 h → (∀ b o, b ≠ S → s.heap.get? b = some o → h.get? b = some o) → LS h S acc → codeAny (model prog w) A (.builtin "list.extend.loop" ⟨[.ref S, .ref I, .none], []⟩) (wants Q E) { s with heap := h, toks := tk } := by
    intro h tk st hb hS1
    refine ext_loop W S hSf .none n 0 _ acc rfl (Nat.zero_le _) st hS1 hsz fun h2 tk2 us k2 l2 e2 p2 => ?_
    refine k h2 tk2 us (fun b o b1 e => k2 b o b1 (fun q => by rw [q, hI] at e; cases e) (hb b o b1 e)) l2 ?_
    refine all2_of_get (by rw [hlen, e2]) fun j v hj => ?_
    obtain ⟨x, hx, hg⟩ := hit (0 + j) v (p2 j v hj)
    rw [Nat.zero_add] at hx
    exact ⟨x, hx, hg s.heap (TL.refl _)⟩
  refine wpAny_bind (wpAny_holding (wpAny_hint_range (n := n) (hk _ _ hr') hn (by omega) ?_))
  have hS' : LS h' S acc := hl.st hk
  refine wpAny_ite_split (fun _ => ?_) (fun _ => wpAny_pure ⟨plainId_quiet F.plain_extend_loop _, key _ _ hst (fun b o _ e => hk b o e) hS'⟩)
  refine wpAny_bind (wpAny_rule ?_)
  refine wpAny_bind ?_
  show wpAny _ _ (updateSeq S (·.push .none) >>= fun _ => updateSeq S (·.pop)) _ _ _
  obtain ⟨m1, em1⟩ := id hS'
  refine wpAny_bind (wpAny_updateSeq em1 rfl ?_ (by rw [List.size_toArray, sizeLine_eq]; omega) (by show (acc.toArray.push .none).size ≤ sizeLine + 1; rw [Array.size_push, List.size_toArray, sizeLine_eq]; omega))
  have hS2 : LS (h'.update S (Obj.mapSeq (·.push Value.none))) S (acc ++ [.none]) := ls_update hS' (by simp)
  obtain ⟨m2, em2⟩ := id hS2
  refine wpAny_updateSeq em2 rfl ?_ (by rw [List.size_toArray, List.length_append, List.length_singleton, sizeLine_eq]; omega) (by show ((acc ++ [Value.none]).toArray.pop).size ≤ sizeLine + 1; rw [Array.size_pop, List.size_toArray, List.length_append, List.length_singleton, sizeLine_eq]; omega)
  have hS3 : LS ((h'.update S (Obj.mapSeq (·.push Value.none))).update S (Obj.mapSeq (·.pop))) S acc := ls_update hS2 (by simp)
  refine wpAny_pure ⟨plainId_quiet F.plain_extend_loop _, key _ _ (W.frame _ _ _ hst fun b hb o e => ?_) (fun b o b1 e => ?_) hS3⟩
  · have hb' : S ≠ b := fun q => hSf (by rw [q]; exact hb)
    exact (Heap.get?_update_other _ _ hb').trans ((Heap.get?_update_other _ _ hb').trans e)
  · exact (Heap.get?_update_other _ _ (Ne.symm b1)).trans ((Heap.get?_update_other _ _ (Ne.symm b1)).trans (hk b o e))
end
end Mine
end
section -- Q29
open PySem PySem.W PyProof.Rows PySem.Calls
set_option maxRecDepth 100000
set_option maxHeartbeats 400000
set_option linter.unusedVariables false
namespace Mine
theorem fill29 : (PySem.Challenge.rw_qd0006_01, Mine.hd.heap_39) = (PySem.Challenge.rw_qd0006_01, Mine.hd.heap_39) := by k_fill; rfl
section
variable {prog : Program} {w : World} {A : Around} {env : Env}
/-- o.extend(range(..)) as a statement -/
theorem exec_extend {o e : Expr} {apos cpos pos : Pos} {fa : Addr} {vs : List Value} {a b c : Int} {n : Nat} {s : Shared} {Q : Flow → Shared → Prop} {E : Value → Shared → Prop} (hh : A.handled = none) (ho : Ev prog w A env s.heap o (IsV (.ref fa))) (he : Ev prog w A env s.heap e (IsRg a b c)) (hl : LS s.heap fa vs)
    (hn : Builtin.Range.rangeSize a b c = n) (hsz : vs.length + n ≤ 1000000)
    (k : ∀ h₁ h' tk us, s.heap.StaysIn h₁ → (∀ b o, b ≠ fa → h₁.get? b = some o → h'.get? b = some o) → LS h' fa (vs ++ us) → All2 IsI h' (rngL a c n) us → Q .next { s with heap := h', toks := tk })
    (hst : starEach [e] env = [(false, eval e env)]) (hi : interactive env = false)
    (hcall : ∃ pl, eval (.Call (.Attribute o "extend" apos) [e] [] cpos) env = (do
      let ov ← eval o env
      standAt apos.atName
      let (f, first) ← holding [ov] (getMethod ov "extend" pl)
      callWith cpos f first (backTo cpos (starEach [e] env)) [])) :
    wpAny (model prog w) A (exec (.Expr (.Call (.Attribute o "extend" apos) [e] [] cpos) pos) env) Q E s := by
  obtain ⟨pl, hcall⟩ := hcall
  refine wpAny_Expr ?_ hi rfl
  refine MethodCall_ (pl := pl) ?_ hcall
  refine ho s _ E (stays_refl _) fun ov h1 tk1 hk1 hov => ?_
  cases hov
  have hl1 := hl.st hk1
  refine getMethod_list_of (s := { s with heap := h1, toks := tk1 }) PySem.F.slot_list_extend PySem.F.type_list_extend (items := vs.toArray) hl1.isList (by obtain ⟨n, e⟩ := hl1; exact ⟨_, e, rfl⟩) ?_
  refine callWith_method1 ?_ (by rw [hst]; rfl) (by rfl)
  refine args_cons ?_ (by rw [hst]; rfl)
  refine he _ _ E hk1 fun v h2 tk2 hk2 hv => args_nil ?_
  exact call_extend hh (hl1.st hk2) hv hn hsz fun h' tk us k1 k2 k3 => k h2 h' tk us (stays_trans hk1 hk2) k1 k2 k3
end

def rowL (p : Int × Int) : List Int := rngL p.1 1 (p.2 + 1 - p.1).toNat
def valuesD (d : Dm) : List Int := d.flatMap rowL
theorem rowL_len (p : Int × Int) : (rowL p).length = (p.2 + 1 - p.1).toNat := by unfold rowL rngL; simp
theorem valuesD_len : ∀ (d : Dm), (∀ p ∈ d, p.1 ≤ p.2) → ((valuesD d).length : Int) = sizeD d
  | [], _ => rfl
  | p :: d, h => by
    have h1 := valuesD_len d fun q hq => h q (by simp [hq])
    have h2 := h p (by simp)
    unfold valuesD sizeD at *
    rw [List.flatMap_cons, List.length_append, List.map_cons, List.sum_cons, rowL_len]
    push_cast
    rw [h1]; omega

theorem cl_values {w : World} {A : Around} {mean : ExcName → Option Value} {mg mb : Str → Option Value} {h : Heap} {dv : Value} {d : Dm} (c : Cx w mean mg mb h) (r : Rm A 3) (hd : IsT IsP d h dv) (hl : d.length ≤ 1000) (hlo : ∀ p ∈ d, p.1 ≤ p.2) (hsz : sizeD d ≤ 1000) :
    Cl pg w A h (.ref 88) [dv] (IsL IsI (valuesD d)) := by
  intro s Q E hs₀ k
  refine enterC (prog := pg) (binds := [("d", dv)]) hs₀ c.X c.T.nolimit (by k_is) (by k_is) r.room (by rfl) (by rfl) (fun L h₁ tk hL hs hn _ _ => ?_) (by rfl) (by rfl) (by rfl)
  have rd := fun env => r.deep (n := 2) env
  have hu : ∀ env, (A.deeper env).units + 2 < cLine := fun env => by have := (rd env).hu; show _ < 9900; omega
  have cs := c.up hs₀
  have c₁ := cs.up hs
  have hd₁ := stab_t tstab_p _ _ _ _ (stays_trans hs₀ hs) hd
  have nd := nmT (prog := pg) (w := w) (x := "d") tstab_p hn rfl hd₁ rfl
  obtain ⟨pl, hpl⟩ : ∃ p : Int × Int, d ≠ [] → d.getLast? = some p := by
    cases hg : d.getLast? with
    | none => exact ⟨(0, 0), fun n => absurd (by simpa using hg) n⟩
    | some p => exact ⟨p, fun _ => rfl⟩
  obtain ⟨pf, hpf⟩ : ∃ p : Int × Int, d ≠ [] → d[0]? = some p := by
    cases d with
    | nil => exact ⟨(0, 0), fun n => absurd rfl n⟩
    | cons p d => exact ⟨p, fun _ => rfl⟩
  have il : d ≠ [] → (((0 : Int) ≤ -1 ∧ d[(-1 : Int).toNat]? = some pl) ∨ ((-1 : Int) < 0 ∧ -(d.length : Int) ≤ -1 ∧ d[((-1 : Int) + d.length).toNat]? = some pl)) := fun n => by
    have hp : 0 < d.length := List.length_pos_iff.mpr n
    refine .inr ⟨by decide, by omega, ?_⟩
    have := hpl n
    rw [List.getLast?_eq_getElem?] at this
    rw [show ((-1 : Int) + (d.length : Nat)).toNat = d.length - 1 by omega]; exact this
  have i0 : d ≠ [] → (((0 : Int) ≤ 0 ∧ d[(0 : Int).toNat]? = some pf) ∨ ((0 : Int) < 0 ∧ -(d.length : Int) ≤ 0 ∧ d[((0 : Int) + d.length).toNat]? = some pf)) := fun n => .inl ⟨Int.le_refl _, hpf n⟩
  have most : ∀ {A : Around} {env : Env} {pos : Pos} {g : Heap}, h₁.StaysIn g → env.globals = mainGlobals → env.scope.kind = .function → env.kindOf "MOST_LISTED" = some .globalImplicit → Ev pg w A env g (.Name "MOST_LISTED" pos) (IsI 1000000) := fun hg e1 e2 e3 =>
    ((c₁.up hg).glob (v := .int 1000000 245) (by k_is) e1 e2 e3 rfl).mono fun _ _ e => ⟨245, e⟩
  refine wpAny_execs_cons (exec_if (b := (!decide (d = [])) && (decide ((1000000 : Int) ≤ pl.2 - pf.1) && decide ((1000000 : Int) < sizeD d))) (.and3 (.neT (hu _) (nd.on (stays_refl _) ⟨rfl, rfl, rfl⟩) (.tuple .nil (by show 0 ≤ 1000; decide) (fun g vs e => by rw [e]; rfl) (fun g g' vs a hg e ht => ⟨a, vs, rfl, ht, by rw [e]; trivial⟩))) (fun hp => ?_) (fun hp hq => ?_)) fun h2 tk2 hk2 => ⟨fun hb => ?_, fun hb => wpAny_execs_nil ?_⟩)
  · have hne : d ≠ [] := by simpa using hp
    exact .ge (.sub (.snd (.itemT tstab_p (by omega) (nd.on (stays_refl _) ⟨rfl, rfl, rfl⟩) (.neg .lit) (il hne))) (.fst (.itemT tstab_p (by omega) (nd.on (stays_refl _) ⟨rfl, rfl, rfl⟩) .lit (i0 hne)))) (most (stays_refl _) rfl rfl rfl)
  · exact .gt (.callF (f := 74) (c₁.fn (by k_is)) rfl (c₁.glob (by k_is) rfl rfl rfl rfl) (.one (nd.on (stays_refl _) ⟨rfl, rfl, rfl⟩) (stab_t tstab_p d)) (fun g vs hg hv => by
      obtain ⟨_, rfl, e1⟩ := hv
      exact cl_size (c₁.up hg) (rd _) hl e1)) (most (stays_refl _) rfl rfl rfl)
  · simp only [Bool.and_eq_true, decide_eq_true_eq] at hb
    omega
  refine wpAny_execs_cons (exec_found (h₀ := s.heap) (stays_trans hs hk2) hL (hn.keeps hk2) (fun fa h3 tk3 st3 hsf hfL hf3 hn3 _ _ => ?_) rfl rfl (by rfl))
  have hfL : fa ≠ L := hfL
  have c3 := cs.up st3
  have out : ∀ {h'}, Kw [L, fa] h3 h' → s.heap.StaysIn h' := fun kw => kw.stays st3 (by simp [hL, hsf])
  have hd3 := stab_t tstab_p _ _ _ _ (stays_trans hs₀ st3) hd
  have nd3 := nmT (prog := pg) (w := w) (x := "d") tstab_p hn3 rfl hd3 rfl
  have hWo : ∀ a ∈ [L, fa], (∃ o, h3.get? a = some o) ∧ NoTup h3 a := fun a ha => by
    rcases List.mem_cons.mp ha with rfl | ha
    · obtain ⟨o, _, _, ho, _⟩ := id hn3; exact ⟨⟨o, ho⟩, noTup_ns hn3⟩
    · rw [List.mem_singleton.mp ha]; obtain ⟨n, e⟩ := id hf3; exact ⟨⟨_, e⟩, hf3.noTup⟩
  have vlen := valuesD_len d hlo
  refine wpAny_execs_cons (for_rule (RS := IsP) (items := d) (W := [L, fa]) (Inv := fun pre h m => m "found" = some (.ref fa) ∧ ∃ vs, LS h fa vs ∧ All2 IsI h (valuesD pre) vs)
    ((nd3.on (stays_refl _) ⟨rfl, rfl, rfl⟩).mono' fun g u hg hu => ⟨src_tuple (rd _).hh tstab_p hu, fun a ha => ne_of_noTup hu (by
      rcases List.mem_cons.mp ha with rfl | ha
      · exact noTup_ns (hn3.keeps hg)
      · rw [List.mem_singleton.mp ha]; exact (hf3.st hg).noTup)⟩) hWo (by simp [envOfC]) (binds_pair (rd _).hh rfl rfl (by decide) rfl) (.inr ⟨_, _, _, rfl⟩) hn3 (fun h' hk => ⟨rfl, [], hf3.st hk, trivial⟩)
    (fun pre h h' m ⟨x, vs, l, a⟩ lk => ⟨x, vs, l.lk lk, ints_all2 (all2_ints a)⟩) (fun pre h m m' x u => ⟨(u _ (by decide) (by decide)).trans x.1, x.2⟩) ?_ ?_ (fun _ => rfl))
  · rintro pre p post s' m' hit hkw hn' ⟨t1, t2, e1, e2⟩ ⟨mf, vs, hl', ha⟩ ⟨h', tk', rfl⟩
    have c' := cs.up (out hkw)
    have nlo := nmI (prog := pg) (w := w) (x := "low") hn' e1 rfl
    have nhi := nmI (prog := pg) (w := w) (x := "high") hn' e2 rfl
    have nf := nmV (prog := pg) (w := w) (x := "found") hn' mf rfl
    have hple : p.1 ≤ p.2 := hlo p (by rw [hit]; simp)
    have hsum : (valuesD d).length = (valuesD pre).length + ((rowL p).length + (valuesD post).length) := by
      rw [hit]; unfold valuesD; rw [List.flatMap_append, List.flatMap_cons, List.length_append, List.length_append]
    rw [rowL_len] at hsum
    refine wpAny_execs_cons (exec_extend (vs := vs) (a := p.1) (b := p.2 + 1) (c := 1) (n := (p.2 + 1 - p.1).toNat) (rd _).hh (nf.on (stays_refl _) ⟨rfl, rfl, rfl⟩) (.range2 (c'.blt (ns_range w) bb_range (by decide) rfl rfl rfl rfl rfl) (nlo.on (stays_refl _) ⟨rfl, rfl, rfl⟩) (.add (nhi.on (stays_refl _) ⟨rfl, rfl, rfl⟩) .lit)) hl' (rangeSize_up (by omega)) (by rw [ha.len]; omega) (fun h2 h4 tk4 us b1 b2 b3 b4 => wpAny_execs_nil ?_) rfl rfl ⟨_, rfl⟩)
    refine ⟨h4, tk4, m', rfl, fun b o nb e => b2 b o (fun q => nb (by simp [q])) (b1 _ _ e), (hn'.keeps b1).at' fun o eo => b2 _ o (Ne.symm hfL) eo, mf, vs ++ us, b3, ?_⟩
    have e : valuesD (pre ++ [p]) = valuesD pre ++ rowL p := by unfold valuesD; rw [List.flatMap_append]; simp
    rw [e]
    exact (ints_all2 (all2_ints ha) : All2 IsI h4 (valuesD pre) vs).append b4
  · rintro h' tk' m' hkw hn' ⟨mf, vs, hl', ha⟩
    refine wpAny_execs_cons (exec_ret (R := IsV (.ref fa)) ((nmV (prog := pg) (w := w) (x := "found") hn' mf rfl).on (stays_refl _) ⟨rfl, rfl, rfl⟩) fun y h14 tk14 k14 hy => ?_)
    cases hy
    exact k _ h14 tk14 (stays_trans (out hkw) k14) ⟨fa, vs, rfl, (hl'.st k14).isList, ints_all2 (all2_ints ha)⟩
end Mine
end
section -- P1
set_option maxHeartbeats 400000
set_option linter.unusedVariables false
namespace Mine
/-- plain law: rows of ranges as sets -/
def Mem (d : Dm) (x : Int) : Prop := ∃ p ∈ d, p.1 ≤ x ∧ x ≤ p.2
def Ca (d : Dm) : Prop := (∀ p ∈ d, p.1 ≤ p.2) ∧ d.Pairwise (fun p q => p.2 + 1 < q.1)
theorem Cn.ca {B : Int} {d : Dm} (h : Cn B d) : Ca d := ⟨fun p hp => (h.1 p hp).1, h.2⟩
theorem mem_nil (x : Int) : ¬ Mem [] x := fun ⟨_, h, _⟩ => by simp at h
theorem mem_cons (p : Int × Int) (d : Dm) (x : Int) : Mem (p :: d) x ↔ (p.1 ≤ x ∧ x ≤ p.2) ∨ Mem d x := by
  constructor
  · rintro ⟨q, hq, h⟩
    rcases List.mem_cons.mp hq with rfl | hq
    · exact .inl h
    · exact .inr ⟨q, hq, h⟩
  · rintro (h | ⟨q, hq, h⟩)
    · exact ⟨p, by simp, h⟩
    · exact ⟨q, by simp [hq], h⟩
theorem mem_app (d e : Dm) (x : Int) : Mem (d ++ e) x ↔ Mem d x ∨ Mem e x := by
  constructor
  · rintro ⟨q, hq, h⟩
    rcases List.mem_append.mp hq with hq | hq
    · exact .inl ⟨q, hq, h⟩
    · exact .inr ⟨q, hq, h⟩
  · rintro (⟨q, hq, h⟩ | ⟨q, hq, h⟩)
    · exact ⟨q, by simp [hq], h⟩
    · exact ⟨q, by simp [hq], h⟩
theorem Ca.nil : Ca [] := ⟨by simp, .nil⟩
theorem Ca.tail {p : Int × Int} {d : Dm} (h : Ca (p :: d)) : Ca d := ⟨fun q hq => h.1 q (by simp [hq]), (List.pairwise_cons.mp h.2).2⟩
theorem Ca.head {p : Int × Int} {d : Dm} (h : Ca (p :: d)) : p.1 ≤ p.2 := h.1 p (by simp)
theorem Ca.gap {p : Int × Int} {d : Dm} (h : Ca (p :: d)) {x : Int} (hx : Mem d x) : p.2 + 1 < x := by
  obtain ⟨q, hq, h1, h2⟩ := hx
  have := (List.pairwise_cons.mp h.2).1 q hq
  omega
theorem Ca.ext : ∀ {d e : Dm}, Ca d → Ca e → (∀ x, Mem d x ↔ Mem e x) → d = e
  | [], [], _, _, _ => rfl
  | [], q :: e, _, h2, hm => absurd ((hm q.1).mpr ((mem_cons _ _ _).mpr (.inl ⟨Int.le_refl _, h2.head⟩))) (mem_nil _)
  | p :: d, [], h1, _, hm => absurd ((hm p.1).mp ((mem_cons _ _ _).mpr (.inl ⟨Int.le_refl _, h1.head⟩))) (mem_nil _)
  | p :: d, q :: e, h1, h2, hm => by
    have hp := h1.head
    have hq := h2.head
    have least : ∀ {r : Int × Int} {f : Dm} {x : Int}, Ca (r :: f) → Mem (r :: f) x → r.1 ≤ x := fun {r f x} hc hx => by
      rcases (mem_cons _ _ _).mp hx with h | h
      · exact h.1
      · have := hc.gap h; have := hc.head; omega
    have e1 : p.1 = q.1 := by
      have a := least h2 ((hm p.1).mp ((mem_cons _ _ _).mpr (.inl ⟨Int.le_refl _, hp⟩)))
      have b := least h1 ((hm q.1).mpr ((mem_cons _ _ _).mpr (.inl ⟨Int.le_refl _, hq⟩)))
      omega
    have e2 : p.2 = q.2 := by
      rcases Int.lt_trichotomy p.2 q.2 with h | h | h
      · exfalso
        have a := (hm (p.2 + 1)).mpr ((mem_cons _ _ _).mpr (.inl ⟨by omega, by omega⟩))
        rcases (mem_cons _ _ _).mp a with a | a
        · omega
        · have := h1.gap a; omega
      · exact h
      · exfalso
        have a := (hm (q.2 + 1)).mp ((mem_cons _ _ _).mpr (.inl ⟨by omega, by omega⟩))
        rcases (mem_cons _ _ _).mp a with a | a
        · omega
        · have := h2.gap a; omega
    have e3 : p = q := Prod.ext e1 e2
    subst e3
    rw [Ca.ext h1.tail h2.tail fun x => ?_]
    constructor
    · intro hx
      have g := h1.gap hx
      rcases (mem_cons _ _ _).mp ((hm x).mp ((mem_cons _ _ _).mpr (.inr hx))) with a | a
      · omega
      · exact a
    · intro hx
      have g := h2.gap hx
      rcases (mem_cons _ _ _).mp ((hm x).mpr ((mem_cons _ _ _).mpr (.inr hx))) with a | a
      · omega
      · exact a
/-- a piece of each range: still canonical -/
theorem Ca.piece {d : Dm} (f : Int × Int → Int × Int) (p : Int × Int → Bool) (h : Ca d) (hf : ∀ q ∈ d, p q = true → q.1 ≤ (f q).1 ∧ (f q).1 ≤ (f q).2 ∧ (f q).2 ≤ q.2) : Ca ((d.filter p).map f) := by
  refine ⟨fun q hq => ?_, ?_⟩
  · obtain ⟨r, hr, rfl⟩ := List.mem_map.mp hq
    obtain ⟨h1, h2⟩ := List.mem_filter.mp hr
    exact (hf r h1 h2).2.1
  · rw [List.pairwise_map]
    refine (h.2.filter p).imp_of_mem fun {a b} ha hb hab => ?_
    obtain ⟨a1, a2⟩ := List.mem_filter.mp ha
    obtain ⟨b1, b2⟩ := List.mem_filter.mp hb
    have := hf a a1 a2
    have := hf b b1 b2
    omega
theorem upTo_ca {d : Dm} {k : Int} (h : Ca d) : Ca (upToD d k) := h.piece _ _ fun q hq hp => by
  have := h.1 q hq
  simp only [decide_eq_true_eq] at hp
  refine ⟨Int.le_refl _, ?_, ?_⟩ <;> dsimp only <;> omega
theorem fromOn_ca {d : Dm} {k : Int} (h : Ca d) : Ca (fromOnD d k) := h.piece _ _ fun q hq hp => by
  have := h.1 q hq
  simp only [decide_eq_true_eq] at hp
  refine ⟨?_, ?_, Int.le_refl _⟩ <;> dsimp only <;> omega
theorem upTo_mem {d : Dm} {k x : Int} : Mem (upToD d k) x ↔ Mem d x ∧ x ≤ k := by
  constructor
  · rintro ⟨q, hq, h1, h2⟩
    obtain ⟨r, hr, rfl⟩ := List.mem_map.mp hq
    obtain ⟨r1, r2⟩ := List.mem_filter.mp hr
    simp only at h1 h2
    exact ⟨⟨r, r1, h1, by omega⟩, by omega⟩
  · rintro ⟨⟨q, hq, h1, h2⟩, h3⟩
    exact ⟨_, List.mem_map.mpr ⟨q, List.mem_filter.mpr ⟨hq, by simp; omega⟩, rfl⟩, h1, by simp only; omega⟩
theorem fromOn_mem {d : Dm} {k x : Int} : Mem (fromOnD d k) x ↔ Mem d x ∧ k ≤ x := by
  constructor
  · rintro ⟨q, hq, h1, h2⟩
    obtain ⟨r, hr, rfl⟩ := List.mem_map.mp hq
    obtain ⟨r1, r2⟩ := List.mem_filter.mp hr
    simp only at h1 h2
    exact ⟨⟨r, r1, by omega, h2⟩, by omega⟩
  · rintro ⟨⟨q, hq, h1, h2⟩, h3⟩
    exact ⟨_, List.mem_map.mpr ⟨q, List.mem_filter.mpr ⟨hq, by simp; omega⟩, rfl⟩, by simp only; omega, h2⟩
end Mine
end
section -- P2
set_option maxHeartbeats 400000
set_option linter.unusedVariables false
namespace Mine
theorem Ca.append {a b : Dm} (h1 : Ca a) (h2 : Ca b) (h : ∀ p ∈ a, ∀ q ∈ b, p.2 + 1 < q.1) : Ca (a ++ b) :=
  ⟨fun p hp => (List.mem_append.mp hp).elim (h1.1 p) (h2.1 p), List.pairwise_append.mpr ⟨h1.2, h2.2, h⟩⟩
theorem mem_lo {d : Dm} (h : Ca d) {q : Int × Int} (hq : q ∈ d) : Mem d q.1 := ⟨q, hq, Int.le_refl _, h.1 q hq⟩
theorem Ca.sorted {d : Dm} (h : Ca d) : sortD d = d := by
  refine (sortD_eq (List.Perm.refl _) ?_).symm
  refine h.2.imp_of_mem fun {a b} ha hb hab => ?_
  have := h.1 a ha
  exact .inl (by omega)
/-- one range cut with a row -/
def cutL (p : Int × Int) (e : Dm) : Dm := (e.filter fun y => decide (max p.1 y.1 ≤ min p.2 y.2)).map fun y => (max p.1 y.1, min p.2 y.2)
theorem commonL_cons (p : Int × Int) (d e : Dm) : commonL (p :: d) e = cutL p e ++ commonL d e := rfl
theorem cut_mem {p : Int × Int} {e : Dm} {x : Int} : Mem (cutL p e) x ↔ (p.1 ≤ x ∧ x ≤ p.2) ∧ Mem e x := by
  constructor
  · rintro ⟨q, hq, h1, h2⟩
    obtain ⟨r, hr, rfl⟩ := List.mem_map.mp hq
    obtain ⟨r1, r2⟩ := List.mem_filter.mp hr
    simp only at h1 h2
    exact ⟨by omega, ⟨r, r1, by omega, by omega⟩⟩
  · rintro ⟨h0, ⟨q, hq, h1, h2⟩⟩
    exact ⟨_, List.mem_map.mpr ⟨q, List.mem_filter.mpr ⟨hq, by simp only [decide_eq_true_eq]; omega⟩, rfl⟩, by simp only; omega, by simp only; omega⟩
theorem cut_ca {p : Int × Int} {e : Dm} (h : Ca e) : Ca (cutL p e) := h.piece _ _ fun q hq hp => by
  simp only [decide_eq_true_eq] at hp
  refine ⟨?_, ?_, ?_⟩ <;> dsimp only <;> omega
theorem common_mem {e : Dm} {x : Int} : ∀ {d : Dm}, Mem (commonL d e) x ↔ Mem d x ∧ Mem e x
  | [] => ⟨fun h => absurd h (mem_nil _), fun h => absurd h.1 (mem_nil _)⟩
  | p :: d => by
    rw [commonL_cons, mem_app, cut_mem, common_mem, mem_cons]
    constructor
    · rintro (⟨a, b⟩ | ⟨a, b⟩)
      · exact ⟨.inl a, b⟩
      · exact ⟨.inr a, b⟩
    · rintro ⟨a | a, b⟩
      · exact .inl ⟨a, b⟩
      · exact .inr ⟨a, b⟩
theorem common_ca {e : Dm} (he : Ca e) : ∀ {d : Dm}, Ca d → Ca (commonL d e)
  | [], _ => Ca.nil
  | p :: d, hd => by
    rw [commonL_cons]
    have ih := common_ca he hd.tail
    have hc := cut_ca (p := p) he
    refine hc.append ih fun a ha b hb => ?_
    have hb' := (common_mem.mp (mem_lo ih hb)).1
    have g := hd.gap hb'
    have ha2 : Mem (cutL p e) a.2 := ⟨a, ha, hc.1 a ha, Int.le_refl _⟩
    have := (cut_mem.mp ha2).1
    omega
theorem common_eq {d e : Dm} (hd : Ca d) (he : Ca e) : commonD d e = commonL d e := (common_ca he hd).sorted
theorem meet_mem {x : Int} : ∀ (d e : Dm), Ca d → Ca e → (Mem (meetD d e) x ↔ Mem d x ∧ Mem e x)
  | [], e, _, _ => by rw [meetD_nil]; exact ⟨fun h => absurd h (mem_nil _), fun h => absurd h.1 (mem_nil _)⟩
  | p :: d, [], _, _ => by rw [meetD_nil']; exact ⟨fun h => absurd h (mem_nil _), fun h => absurd h.2 (mem_nil _)⟩
  | p :: d, q :: e, hd, he => by
    rw [meetD_cons, mem_app]
    have hp : Mem (if max p.1 q.1 ≤ min p.2 q.2 then [(max p.1 q.1, min p.2 q.2)] else []) x ↔ (p.1 ≤ x ∧ x ≤ p.2) ∧ (q.1 ≤ x ∧ x ≤ q.2) := by
      by_cases h : max p.1 q.1 ≤ min p.2 q.2
      · rw [if_pos h, mem_cons]
        constructor
        · rintro (a | a)
          · simp only at a; omega
          · exact absurd a (mem_nil _)
        · intro a; exact .inl (by simp only; omega)
      · rw [if_neg h]
        exact ⟨fun a => absurd a (mem_nil _), fun a => absurd a (by omega)⟩
    rw [hp]
    by_cases h : p.2 < q.2
    · rw [if_pos h, meet_mem d (q :: e) hd.tail he, mem_cons, mem_cons]
      constructor
      · rintro (⟨a, b⟩ | ⟨a, b⟩)
        · exact ⟨.inl a, .inl b⟩
        · exact ⟨.inr a, b⟩
      · rintro ⟨a | a, b | b⟩
        · exact .inl ⟨a, b⟩
        · have := he.gap b; omega
        · exact .inr ⟨a, .inl b⟩
        · exact .inr ⟨a, .inr b⟩
    · rw [if_neg h, meet_mem (p :: d) e hd he.tail, mem_cons, mem_cons]
      constructor
      · rintro (⟨a, b⟩ | ⟨a, b⟩)
        · exact ⟨.inl a, .inl b⟩
        · exact ⟨a, .inr b⟩
      · rintro ⟨a | a, b | b⟩
        · exact .inl ⟨a, b⟩
        · exact .inr ⟨.inl a, b⟩
        · have := hd.gap a; omega
        · exact .inr ⟨.inr a, b⟩
termination_by d e => d.length + e.length
theorem meet_ca : ∀ (d e : Dm), Ca d → Ca e → Ca (meetD d e)
  | [], e, _, _ => by rw [meetD_nil]; exact Ca.nil
  | p :: d, [], _, _ => by rw [meetD_nil']; exact Ca.nil
  | p :: d, q :: e, hd, he => by
    rw [meetD_cons]
    have hp : Ca (if max p.1 q.1 ≤ min p.2 q.2 then [(max p.1 q.1, min p.2 q.2)] else []) := by
      by_cases h : max p.1 q.1 ≤ min p.2 q.2
      · rw [if_pos h]; exact ⟨fun r hr => by rw [List.mem_singleton.mp hr]; exact h, by simp⟩
      · rw [if_neg h]; exact Ca.nil
    have hin : ∀ r ∈ (if max p.1 q.1 ≤ min p.2 q.2 then [(max p.1 q.1, min p.2 q.2)] else ([] : Dm)), r.2 = min p.2 q.2 := fun r hr => by
      by_cases h : max p.1 q.1 ≤ min p.2 q.2
      · rw [if_pos h] at hr; rw [List.mem_singleton.mp hr]
      · rw [if_neg h] at hr; simp at hr
    by_cases h : p.2 < q.2
    · rw [if_pos h]
      have ih := meet_ca d (q :: e) hd.tail he
      refine hp.append ih fun a ha b hb => ?_
      have g := hd.gap ((meet_mem d (q :: e) hd.tail he).mp (mem_lo ih hb)).1
      have := hin a ha
      omega
    · rw [if_neg h]
      have ih := meet_ca (p :: d) e hd he.tail
      refine hp.append ih fun a ha b hb => ?_
      have g := he.gap ((meet_mem (p :: d) e hd he.tail).mp (mem_lo ih hb)).2
      have := hin a ha
      omega
termination_by d e => d.length + e.length
theorem meet_eq {d e : Dm} (hd : Ca d) (he : Ca e) : meetD d e = commonD d e := by
  rw [common_eq hd he]
  exact Ca.ext (meet_ca d e hd he) (common_ca he hd) fun x => by rw [meet_mem d e hd he, common_mem]
end Mine
end
section -- P3
set_option maxHeartbeats 400000
set_option linter.unusedVariables false
namespace Mine
def outI (E : List Int) (n : Nat) : Dm := ((List.range n).filter fun i => decide (E.getD (2 * i) 0 + 1 ≤ E.getD (2 * i + 1) 0 - 1)).map fun i => (E.getD (2 * i) 0 + 1, E.getD (2 * i + 1) 0 - 1)
theorem outI_succ (a b : Int) (E : List Int) (n : Nat) : outI (a :: b :: E) (n + 1) = (if a + 1 ≤ b - 1 then [(a + 1, b - 1)] else []) ++ outI E n := by
  unfold outI
  rw [List.range_succ_eq_map, List.filter_cons]
  have e1 : ∀ i, (a :: b :: E).getD (2 * (i + 1)) 0 = E.getD (2 * i) 0 := fun i => by rw [show 2 * (i + 1) = (2 * i + 1) + 1 by omega]; simp [List.getD_eq_getElem?_getD]
  have e2 : ∀ i, (a :: b :: E).getD (2 * (i + 1) + 1) 0 = E.getD (2 * i + 1) 0 := fun i => by rw [show 2 * (i + 1) + 1 = (2 * i + 1 + 1) + 1 by omega]; simp [List.getD_eq_getElem?_getD]
  rw [List.filter_map]
  have e3 : ((fun i => decide ((a :: b :: E).getD (2 * i) 0 + 1 ≤ (a :: b :: E).getD (2 * i + 1) 0 - 1)) ∘ Nat.succ) = fun i => decide (E.getD (2 * i) 0 + 1 ≤ E.getD (2 * i + 1) 0 - 1) := by
    funext i; show decide ((a :: b :: E).getD (2 * (i + 1)) 0 + 1 ≤ (a :: b :: E).getD (2 * (i + 1) + 1) 0 - 1) = _; rw [e1, e2]
  rw [e3]
  have e4 : ∀ l : List Nat, (l.map Nat.succ).map (fun i => ((a :: b :: E).getD (2 * i) 0 + 1, (a :: b :: E).getD (2 * i + 1) 0 - 1)) = l.map fun i => (E.getD (2 * i) 0 + 1, E.getD (2 * i + 1) 0 - 1) := fun l => by
    rw [List.map_map]; apply List.map_congr_left; intro i _
    show ((a :: b :: E).getD (2 * (i + 1)) 0 + 1, (a :: b :: E).getD (2 * (i + 1) + 1) 0 - 1) = _; rw [e1, e2]
  by_cases h : a + 1 ≤ b - 1
  · rw [if_pos h, if_pos (by simpa using h), List.map_cons, e4]; rfl
  · rw [if_neg h, if_neg (by simpa using h), e4]; rfl
def outsG (hi : Int) : Int → Dm → Dm
  | lo, [] => if lo + 1 ≤ hi then [(lo + 1, hi)] else []
  | lo, p :: d => (if lo + 1 ≤ p.1 - 1 then [(lo + 1, p.1 - 1)] else []) ++ outsG hi p.2 d
theorem outI_outsG (hi : Int) : ∀ (d : Dm) (lo : Int), outI (lo :: ((d.flatMap fun p => [p.1, p.2]) ++ [hi + 1])) (d.length + 1) = outsG hi lo d
  | [], lo => by
    show outI [lo, hi + 1] (0 + 1) = _
    rw [outI_succ]
    unfold outI outsG
    rw [show hi + 1 - 1 = hi by omega]; simp
  | p :: d, lo => by
    show outI (lo :: p.1 :: (p.2 :: ((d.flatMap fun p => [p.1, p.2]) ++ [hi + 1]))) (d.length + 1 + 1) = _
    rw [outI_succ, outI_outsG hi d p.2]; rfl
theorem outside_eq (d : Dm) : outsideD d = outsG FAR (0 - FAR - 1) d := by
  rw [← outI_outsG]
  have hE : endsL d = (0 - FAR - 1) :: ((d.flatMap fun p => [p.1, p.2]) ++ [FAR + 1]) := rfl
  unfold outsideD outI rngL
  rw [hE, List.filter_map, List.map_map]
  have t1 : ∀ i : Nat, (0 + (i : Int) * 2).toNat = 2 * i := fun i => by omega
  congr 1
  · funext i
    show (_, _) = (_, _)
    simp only [Function.comp, t1]
  · congr 1
    funext i
    simp only [Function.comp, t1]
/-- between lo and hi, outside of the row -/
theorem outsG_mem (hi x : Int) : ∀ (d : Dm) (lo : Int), Ca d → (∀ p ∈ d, lo < p.1 ∧ p.2 ≤ hi) → (Mem (outsG hi lo d) x ↔ (lo < x ∧ x ≤ hi) ∧ ¬ Mem d x)
  | [], lo, _, _ => by
    unfold outsG
    by_cases h : lo + 1 ≤ hi
    · rw [if_pos h, mem_cons]
      constructor
      · rintro (a | a)
        · simp only at a; exact ⟨by omega, mem_nil _⟩
        · exact absurd a (mem_nil _)
      · rintro ⟨a, _⟩; exact .inl (by simp only; omega)
    · rw [if_neg h]
      exact ⟨fun a => absurd a (mem_nil _), fun a => absurd a.1 (by omega)⟩
  | p :: d, lo, hd, hb => by
    unfold outsG
    have hp := hd.head
    have hbp := hb p (by simp)
    have ih := outsG_mem hi x d p.2 hd.tail fun q hq => ⟨by have := hd.gap (mem_lo hd.tail hq); omega, (hb q (by simp [hq])).2⟩
    rw [mem_app, ih, mem_cons]
    have h1 : Mem (if lo + 1 ≤ p.1 - 1 then [(lo + 1, p.1 - 1)] else []) x ↔ lo < x ∧ x < p.1 := by
      by_cases h : lo + 1 ≤ p.1 - 1
      · rw [if_pos h, mem_cons]
        constructor
        · rintro (a | a)
          · simp only at a; omega
          · exact absurd a (mem_nil _)
        · intro a; exact .inl (by simp only; omega)
      · rw [if_neg h]
        exact ⟨fun a => absurd a (mem_nil _), fun a => absurd a (by omega)⟩
    rw [h1]
    constructor
    · rintro (a | ⟨a, b⟩)
      · refine ⟨by omega, ?_⟩
        rintro (c | c)
        · omega
        · have := hd.gap c; omega
      · refine ⟨by omega, ?_⟩
        rintro (c | c)
        · omega
        · exact b c
    · rintro ⟨a, b⟩
      by_cases c : x < p.1
      · exact .inl ⟨by omega, c⟩
      · by_cases e : x ≤ p.2
        · exact absurd (.inl ⟨by omega, e⟩) b
        · exact .inr ⟨by omega, fun q => b (.inr q)⟩
theorem outsG_ca (hi : Int) : ∀ (d : Dm) (lo : Int), Ca d → (∀ p ∈ d, lo < p.1 ∧ p.2 ≤ hi) → Ca (outsG hi lo d)
  | [], lo, _, _ => by
    unfold outsG
    by_cases h : lo + 1 ≤ hi
    · rw [if_pos h]; exact ⟨fun r hr => by rw [List.mem_singleton.mp hr]; exact h, by simp⟩
    · rw [if_neg h]; exact Ca.nil
  | p :: d, lo, hd, hb => by
    unfold outsG
    have hp := hd.head
    have hbt : ∀ q ∈ d, p.2 < q.1 ∧ q.2 ≤ hi := fun q hq => ⟨by have := hd.gap (mem_lo hd.tail hq); omega, (hb q (by simp [hq])).2⟩
    have ih := outsG_ca hi d p.2 hd.tail hbt
    have h1 : Ca (if lo + 1 ≤ p.1 - 1 then [(lo + 1, p.1 - 1)] else []) := by
      by_cases h : lo + 1 ≤ p.1 - 1
      · rw [if_pos h]; exact ⟨fun r hr => by rw [List.mem_singleton.mp hr]; exact h, by simp⟩
      · rw [if_neg h]; exact Ca.nil
    refine h1.append ih fun a ha b hb' => ?_
    have hm := ((outsG_mem hi b.1 d p.2 hd.tail hbt).mp (mem_lo ih hb')).1
    by_cases h : lo + 1 ≤ p.1 - 1
    · rw [if_pos h] at ha; rw [List.mem_singleton.mp ha]; simp only; omega
    · rw [if_neg h] at ha; simp at ha
end Mine
end
section -- P4
set_option maxHeartbeats 400000
set_option linter.unusedVariables false
namespace Mine
theorem one_ca {a b : Int} : Ca (if a ≤ b then [(a, b)] else []) := by
  by_cases h : a ≤ b
  · rw [if_pos h]; exact ⟨fun r hr => by rw [List.mem_singleton.mp hr]; exact h, by simp⟩
  · rw [if_neg h]; exact Ca.nil
theorem one_mem {a b x : Int} : Mem (if a ≤ b then [(a, b)] else []) x ↔ a ≤ x ∧ x ≤ b := by
  by_cases h : a ≤ b
  · rw [if_pos h, mem_cons]
    exact ⟨fun a => a.elim (fun a => a) fun a => absurd a (mem_nil _), .inl⟩
  · rw [if_neg h]
    exact ⟨fun a => absurd a (mem_nil _), fun a => absurd a (by omega)⟩
def rowG (hi : Int) : Int → Dm → Dm
  | b, [] => if b ≤ hi then [(b, hi)] else []
  | b, q :: e => if b ≤ q.2 ∧ q.1 ≤ hi then (if b ≤ q.1 - 1 then [(b, q.1 - 1)] else []) ++ rowG hi (q.2 + 1) e else rowG hi b e
theorem mrow_eq (hi : Int) : ∀ (e acc : Dm) (b : Int), (e.foldl (mstep hi) (acc, b)).1 ++ (if (e.foldl (mstep hi) (acc, b)).2 ≤ hi then [((e.foldl (mstep hi) (acc, b)).2, hi)] else []) = acc ++ rowG hi b e
  | [], acc, b => rfl
  | q :: e, acc, b => by
    rw [List.foldl_cons]
    unfold rowG
    by_cases h : b ≤ q.2 ∧ q.1 ≤ hi
    · have e1 : mstep hi (acc, b) q = ((if b < q.1 then acc ++ [(b, q.1 - 1)] else acc), q.2 + 1) := by unfold mstep; rw [if_pos h]
      rw [e1, mrow_eq, if_pos h]
      by_cases h2 : b < q.1
      · rw [if_pos h2, if_pos (by omega), List.append_assoc]
      · rw [if_neg h2, if_neg (by omega)]; rfl
    · have e1 : mstep hi (acc, b) q = (acc, b) := by unfold mstep; rw [if_neg h]
      rw [e1, mrow_eq, if_neg h]
theorem minus_fold (e : Dm) : ∀ (d acc : Dm), d.foldl (mrow e) acc = acc ++ d.flatMap fun p => rowG p.2 p.1 e
  | [], acc => by simp
  | p :: d, acc => by
    rw [List.foldl_cons, minus_fold e d, List.flatMap_cons, ← List.append_assoc]
    congr 1
    exact mrow_eq p.2 e acc p.1
theorem rowG_mem (hi x : Int) : ∀ (e : Dm) (b : Int), Ca e → (Mem (rowG hi b e) x ↔ (b ≤ x ∧ x ≤ hi) ∧ ¬ Mem e x)
  | [], b, _ => by
    unfold rowG; rw [one_mem]
    exact ⟨fun a => ⟨a, mem_nil _⟩, fun a => a.1⟩
  | q :: e, b, he => by
    unfold rowG
    have hq := he.head
    by_cases h : b ≤ q.2 ∧ q.1 ≤ hi
    · rw [if_pos h, mem_app, one_mem, rowG_mem hi x e _ he.tail, mem_cons]
      constructor
      · rintro (a | ⟨a, c⟩)
        · refine ⟨by omega, ?_⟩
          rintro (c | c)
          · omega
          · have := he.gap c; omega
        · refine ⟨by omega, ?_⟩
          rintro (d | d)
          · omega
          · exact c d
      · rintro ⟨a, c⟩
        by_cases h1 : x < q.1
        · exact .inl (by omega)
        · by_cases h2 : x ≤ q.2
          · exact absurd (.inl ⟨by omega, h2⟩) c
          · exact .inr ⟨by omega, fun d => c (.inr d)⟩
    · rw [if_neg h, rowG_mem hi x e _ he.tail, mem_cons]
      constructor
      · rintro ⟨a, c⟩
        refine ⟨a, ?_⟩
        rintro (d | d)
        · exact h ⟨by omega, by omega⟩
        · exact c d
      · rintro ⟨a, c⟩
        exact ⟨a, fun d => c (.inr d)⟩
theorem rowG_ca (hi : Int) : ∀ (e : Dm) (b : Int), Ca e → Ca (rowG hi b e)
  | [], b, _ => by unfold rowG; exact one_ca
  | q :: e, b, he => by
    unfold rowG
    by_cases h : b ≤ q.2 ∧ q.1 ≤ hi
    · rw [if_pos h]
      have ih := rowG_ca hi e (q.2 + 1) he.tail
      refine one_ca.append ih fun a ha c hc => ?_
      have := ((rowG_mem hi c.1 e _ he.tail).mp (mem_lo ih hc)).1
      have hq := he.head
      by_cases h2 : b ≤ q.1 - 1
      · rw [if_pos h2] at ha; rw [List.mem_singleton.mp ha]; simp only; omega
      · rw [if_neg h2] at ha; simp at ha
    · rw [if_neg h]; exact rowG_ca hi e b he.tail
theorem minusD_cons (p : Int × Int) (d e : Dm) : minusD (p :: d) e = rowG p.2 p.1 e ++ minusD d e := by
  unfold minusD; rw [minus_fold, minus_fold]; simp
theorem minus_mem {e : Dm} {x : Int} (he : Ca e) : ∀ {d : Dm}, Mem (minusD d e) x ↔ Mem d x ∧ ¬ Mem e x
  | [] => ⟨fun h => absurd h (mem_nil _), fun h => absurd h.1 (mem_nil _)⟩
  | p :: d => by
    rw [minusD_cons, mem_app, rowG_mem p.2 x e p.1 he, minus_mem he, mem_cons]
    constructor
    · rintro (⟨a, b⟩ | ⟨a, b⟩)
      · exact ⟨.inl a, b⟩
      · exact ⟨.inr a, b⟩
    · rintro ⟨a | a, b⟩
      · exact .inl ⟨a, b⟩
      · exact .inr ⟨a, b⟩
theorem minus_ca {e : Dm} (he : Ca e) : ∀ {d : Dm}, Ca d → Ca (minusD d e)
  | [], _ => Ca.nil
  | p :: d, hd => by
    rw [minusD_cons]
    have h1 := rowG_ca p.2 e p.1 he
    have ih := minus_ca he hd.tail
    refine h1.append ih fun a ha b hb => ?_
    have g := hd.gap ((minus_mem he).mp (mem_lo ih hb)).1
    have ha2 : Mem (rowG p.2 p.1 e) a.2 := ⟨a, ha, h1.1 a ha, Int.le_refl _⟩
    have := ((rowG_mem p.2 a.2 e p.1 he).mp ha2).1
    omega
/-- values plus a number, values with the other sign -/
theorem shifted_ca {d : Dm} {k : Int} (h : Ca d) : Ca (shiftedD d k) := by
  unfold shiftedD
  refine ⟨fun q hq => ?_, ?_⟩
  · obtain ⟨r, hr, rfl⟩ := List.mem_map.mp hq
    have := h.1 r hr; simp only; omega
  · rw [List.pairwise_map]
    exact h.2.imp fun {a b} hab => by simp only; omega
theorem negated_ca {d : Dm} (h : Ca d) : Ca (negatedD d) := by
  unfold negatedD
  refine ⟨fun q hq => ?_, ?_⟩
  · obtain ⟨r, hr, rfl⟩ := List.mem_map.mp hq
    have := h.1 r (by simpa using hr); simp only; omega
  · rw [List.pairwise_map, List.pairwise_reverse]
    exact h.2.imp fun {a b} hab => by simp only; omega
theorem without_ca {d : Dm} {v : Int} (h : Ca d) : Ca (withoutD d v) := by
  refine (upTo_ca h).append (fromOn_ca h) fun a ha b hb => ?_
  have h1 := (upTo_mem.mp ⟨a, ha, (upTo_ca h).1 a ha, Int.le_refl _⟩).2
  have h2 := (fromOn_mem.mp (mem_lo (fromOn_ca h) hb)).2
  omega
theorem without_mem {d : Dm} {v x : Int} : Mem (withoutD d v) x ↔ Mem d x ∧ x ≠ v := by
  unfold withoutD
  rw [mem_app, upTo_mem, fromOn_mem]
  constructor
  · rintro (⟨a, b⟩ | ⟨a, b⟩) <;> exact ⟨a, by omega⟩
  · rintro ⟨a, b⟩
    by_cases c : x < v
    · exact .inl ⟨a, by omega⟩
    · exact .inr ⟨a, by omega⟩
end Mine
end
section -- P5
set_option maxHeartbeats 400000
set_option linter.unusedVariables false
namespace Mine
theorem put_nil (lo hi : Int) : putBehind [] lo hi = [(lo, hi)] := rfl
theorem put_snoc (acc : Dm) (q : Int × Int) (lo hi : Int) : putBehind (acc ++ [q]) lo hi = if lo ≤ q.2 + 1 then (if q.2 < hi then acc ++ [(q.1, hi)] else acc ++ [q]) else acc ++ [q] ++ [(lo, hi)] := by
  unfold putBehind
  rw [List.getLast?_concat, List.dropLast_concat]
theorem Ca.snoc_inv {a : Dm} {q : Int × Int} (h : Ca (a ++ [q])) : Ca a ∧ q.1 ≤ q.2 ∧ ∀ p ∈ a, p.2 + 1 < q.1 := by
  have hp := List.pairwise_append.mp h.2
  exact ⟨⟨fun p hp => h.1 p (by simp [hp]), hp.1⟩, h.1 q (by simp), fun p ha => hp.2.2 p ha q (by simp)⟩
theorem Ca.snoc' {a : Dm} {q : Int × Int} (h : Ca a) (h1 : q.1 ≤ q.2) (h2 : ∀ p ∈ a, p.2 + 1 < q.1) : Ca (a ++ [q]) :=
  h.append ⟨fun r hr => by rw [List.mem_singleton.mp hr]; exact h1, by simp⟩ fun p hp r hr => by rw [List.mem_singleton.mp hr]; exact h2 p hp
theorem mem_snoc {a : Dm} {q : Int × Int} {x : Int} : Mem (a ++ [q]) x ↔ Mem a x ∨ (q.1 ≤ x ∧ x ≤ q.2) := by
  rw [mem_app, mem_cons]
  constructor
  · rintro (a | a | a)
    · exact .inl a
    · exact .inr a
    · exact absurd a (mem_nil _)
  · rintro (a | a)
    · exact .inl a
    · exact .inr (.inl a)
theorem foldPut_ok : ∀ (xs acc : Dm), (acc = [] ∨ ∃ acc' q, acc = acc' ++ [q] ∧ ∀ p ∈ xs, q.1 ≤ p.1) → Ca acc → (∀ p ∈ xs, p.1 ≤ p.2) → xs.Pairwise lle → Ca (foldPut xs acc) ∧ ∀ x, Mem (foldPut xs acc) x ↔ Mem acc x ∨ Mem xs x
  | [], acc, _, ha, _, _ => ⟨ha, fun x => ⟨.inl, fun h => h.elim id fun h => absurd h (mem_nil _)⟩⟩
  | p :: xs, acc, hq, ha, hx, hs => by
    show Ca (foldPut xs (putBehind acc p.1 p.2)) ∧ ∀ x, Mem (foldPut xs (putBehind acc p.1 p.2)) x ↔ _
    obtain ⟨s1, s2⟩ := List.pairwise_cons.mp hs
    have hp := hx p (by simp)
    have low : ∀ r ∈ xs, p.1 ≤ r.1 := fun r hr => by rcases s1 r hr with h | h <;> omega
    have key : ∃ acc' q, putBehind acc p.1 p.2 = acc' ++ [q] ∧ (∀ r ∈ xs, q.1 ≤ r.1) ∧ Ca (acc' ++ [q]) ∧ ∀ x, Mem (acc' ++ [q]) x ↔ Mem acc x ∨ (p.1 ≤ x ∧ x ≤ p.2) := by
      rcases hq with rfl | ⟨acc', q, rfl, hq⟩
      · exact ⟨[], p, rfl, low, ⟨fun r hr => by simp at hr; subst hr; exact hp, by simp⟩, fun x => by rw [mem_snoc]⟩
      · have hqp := hq p (by simp)
        obtain ⟨c1, c2, c3⟩ := ha.snoc_inv
        rw [put_snoc]
        by_cases h1 : p.1 ≤ q.2 + 1
        · rw [if_pos h1]
          by_cases h2 : q.2 < p.2
          · rw [if_pos h2]
            refine ⟨acc', (q.1, p.2), rfl, fun r hr => hq r (by simp [hr]), c1.snoc' (by simp only; omega) c3, fun x => ?_⟩
            rw [mem_snoc, mem_snoc]
            constructor
            · rintro (a | a)
              · exact .inl (.inl a)
              · simp only at a
                by_cases h3 : x ≤ q.2
                · exact .inl (.inr ⟨a.1, h3⟩)
                · exact .inr (by omega)
            · rintro ((a | a) | a)
              · exact .inl a
              · exact .inr (by simp only; omega)
              · exact .inr (by simp only; omega)
          · rw [if_neg h2]
            refine ⟨acc', q, rfl, fun r hr => hq r (by simp [hr]), ha, fun x => ?_⟩
            rw [mem_snoc]
            constructor
            · exact .inl
            · rintro (a | a)
              · exact a
              · exact .inr (by omega)
        · rw [if_neg h1]
          refine ⟨acc' ++ [q], p, rfl, low, ha.snoc' hp fun r hr => ?_, fun x => by rw [mem_snoc]⟩
          rcases List.mem_append.mp hr with hr | hr
          · have := c3 r hr; omega
          · rw [List.mem_singleton.mp hr]; omega
    obtain ⟨acc', q, e, k1, k2, k3⟩ := key
    rw [e]
    obtain ⟨r1, r2⟩ := foldPut_ok xs (acc' ++ [q]) (.inr ⟨acc', q, rfl, k1⟩) k2 (fun r hr => hx r (by simp [hr])) s2
    refine ⟨r1, fun x => ?_⟩
    rw [r2, k3, mem_cons]
    constructor
    · rintro ((a | a) | a)
      · exact .inl a
      · exact .inr (.inl a)
      · exact .inr (.inr a)
    · rintro (a | a | a)
      · exact .inl (.inl a)
      · exact .inl (.inr a)
      · exact .inr a
theorem sortD_pw (xs : Dm) : (sortD xs).Pairwise lle := by
  have := List.pairwise_mergeSort (le := lleB) (fun a b c h1 h2 => by unfold lleB at *; rw [decide_eq_true_eq] at *; omega) (fun a b => by unfold lleB; rw [Bool.or_eq_true, decide_eq_true_eq, decide_eq_true_eq]; omega) xs
  exact this.imp fun h => of_decide_eq_true h
theorem sortD_mem {xs : Dm} {x : Int} : Mem (sortD xs) x ↔ Mem xs x := by
  have hp := List.mergeSort_perm xs lleB
  exact ⟨fun ⟨q, hq, h⟩ => ⟨q, hp.mem_iff.mp hq, h⟩, fun ⟨q, hq, h⟩ => ⟨q, hp.mem_iff.mpr hq, h⟩⟩
theorem join_ok {d e : Dm} (hd : Ca d) (he : Ca e) : Ca (joinD d e) ∧ ∀ x, Mem (joinD d e) x ↔ Mem d x ∨ Mem e x := by
  have hp := List.mergeSort_perm (d ++ e) lleB
  obtain ⟨h1, h2⟩ := foldPut_ok (sortD (d ++ e)) [] (.inl rfl) Ca.nil (fun p hq => by
    rcases List.mem_append.mp (hp.mem_iff.mp hq) with h | h
    · exact hd.1 p h
    · exact he.1 p h) (sortD_pw _)
  refine ⟨h1, fun x => ?_⟩
  show Mem (foldPut _ _) x ↔ _
  rw [h2, sortD_mem, mem_app]
  exact ⟨fun h => h.elim (fun h => absurd h (mem_nil _)) id, .inr⟩
theorem join_ca {d e : Dm} (hd : Ca d) (he : Ca e) : Ca (joinD d e) := (join_ok hd he).1
end Mine
end
section -- P6
set_option maxHeartbeats 400000
set_option linter.unusedVariables false
namespace Mine
theorem rowL_mem {p : Int × Int} {x : Int} : x ∈ rowL p ↔ p.1 ≤ x ∧ x ≤ p.2 := by
  unfold rowL rngL
  rw [List.mem_map]
  constructor
  · rintro ⟨i, hi, rfl⟩
    have := List.mem_range.mp hi
    omega
  · rintro ⟨h1, h2⟩
    exact ⟨(x - p.1).toNat, List.mem_range.mpr (by omega), by omega⟩
theorem rowL_pw (p : Int × Int) : (rowL p).Pairwise (· < ·) := by
  unfold rowL rngL
  rw [List.pairwise_map]
  exact List.pairwise_lt_range.imp fun {a b} h => by omega
theorem valuesD_mem {d : Dm} {x : Int} : x ∈ valuesD d ↔ Mem d x := by
  unfold valuesD
  rw [List.mem_flatMap]
  exact ⟨fun ⟨p, hp, h⟩ => ⟨p, hp, rowL_mem.mp h⟩, fun ⟨p, hp, h⟩ => ⟨p, hp, rowL_mem.mpr h⟩⟩
theorem valuesD_cons (p : Int × Int) (d : Dm) : valuesD (p :: d) = rowL p ++ valuesD d := rfl
theorem valuesD_pw : ∀ {d : Dm}, Ca d → (valuesD d).Pairwise (· < ·)
  | [], _ => .nil
  | p :: d, h => by
    rw [valuesD_cons, List.pairwise_append]
    refine ⟨rowL_pw p, valuesD_pw h.tail, fun a ha b hb => ?_⟩
    have := (rowL_mem.mp ha).2
    have := h.gap (valuesD_mem.mp hb)
    omega
/-- the least of an ascending list from a bound on -/
theorem head_least {l : List Int} (hp : l.Pairwise (· < ·)) {z : Int} (hz : z ∈ l) (hl : ∀ x ∈ l, z ≤ x) : l.head? = some z := by
  cases l with
  | nil => simp at hz
  | cons a l =>
    have := hl a (by simp)
    rcases List.mem_cons.mp hz with rfl | hz
    · rfl
    · have := (List.pairwise_cons.mp hp).1 z hz; omega
theorem next_head : ∀ {d : Dm} {v : Int}, Ca d → nextFrom d v = ((valuesD d).filter fun x => decide (v ≤ x)).head?
  | [], v, _ => rfl
  | p :: d, v, h => by
    have hp := h.head
    by_cases c : v ≤ p.2
    · have e : nextFrom (p :: d) v = some (max p.1 v) := by unfold nextFrom; simp [c]
      rw [e]
      symm
      refine head_least ((valuesD_pw h).filter _) ?_ fun x hx => ?_
      · exact List.mem_filter.mpr ⟨valuesD_mem.mpr ((mem_cons _ _ _).mpr (.inl (by omega))), by simp only [decide_eq_true_eq]; omega⟩
      · obtain ⟨h1, h2⟩ := List.mem_filter.mp hx
        simp only [decide_eq_true_eq] at h2
        rcases (mem_cons _ _ _).mp (valuesD_mem.mp h1) with a | a
        · omega
        · have := h.gap a; omega
    · have e : nextFrom (p :: d) v = nextFrom d v := by unfold nextFrom; simp [c]
      rw [e, next_head h.tail, valuesD_cons, List.filter_append]
      have e2 : (rowL p).filter (fun x => decide (v ≤ x)) = [] := by
        rw [List.filter_eq_nil_iff]
        intro x hx
        have := (rowL_mem.mp hx).2
        simp only [decide_eq_true_eq]; omega
      rw [e2]; rfl
theorem filter_next {l : List Int} (hp : l.Pairwise (· < ·)) {v z : Int} {t : List Int} (h : (l.filter fun x => decide (v ≤ x)) = z :: t) : (l.filter fun x => decide (z + 1 ≤ x)) = t := by
  have hz : z ∈ l.filter fun x => decide (v ≤ x) := by rw [h]; simp
  have hvz : v ≤ z := by have := (List.mem_filter.mp hz).2; simpa using this
  have hpt : (z :: t).Pairwise (· < ·) := h ▸ hp.filter _
  have e : (l.filter fun x => decide (z + 1 ≤ x)) = (l.filter fun x => decide (v ≤ x)).filter fun x => decide (z + 1 ≤ x) := by
    rw [List.filter_filter]
    apply List.filter_congr
    intro x _
    rw [Bool.eq_iff_iff]; simp only [Bool.and_eq_true, decide_eq_true_eq]; omega
  rw [e, h, List.filter_cons, if_neg (by simp only [decide_eq_true_eq]; omega), List.filter_eq_self]
  intro x hx
  have := (List.pairwise_cons.mp hpt).1 x hx
  simp only [decide_eq_true_eq]; omega
theorem step_eq {d : Dm} (h : Ca d) : ∀ (n : Nat) (v : Int), ((valuesD d).filter fun x => decide (v ≤ x)).length < n → stepD d n v = (valuesD d).filter fun x => decide (v ≤ x)
  | 0, v, hn => by omega
  | n + 1, v, hn => by
    unfold stepD
    rw [next_head h]
    cases hl : (valuesD d).filter fun x => decide (v ≤ x) with
    | nil => rfl
    | cons z t =>
      have e := filter_next (valuesD_pw h) hl
      rw [hl] at hn
      show z :: stepD d n (z + 1) = z :: t
      rw [step_eq h n (z + 1) (by rw [e]; simpa using hn), e]
theorem stepped_all {d : Dm} (h : Ca d) {n : Nat} {v : Int} (hv : ∀ p ∈ d, v ≤ p.1) (hn : (valuesD d).length < n) : stepD d n v = valuesD d := by
  have e : (valuesD d).filter (fun x => decide (v ≤ x)) = valuesD d := by
    rw [List.filter_eq_self]
    intro x hx
    obtain ⟨p, hp, h1, _⟩ := valuesD_mem.mp hx
    have := hv p hp
    simp only [decide_eq_true_eq]; omega
  rw [step_eq h n v (by rw [e]; exact hn), e]
theorem from_values_ok {d : Dm} (h : Ca d) : fromD (valuesD d) = d := by
  obtain ⟨h1, h2⟩ := foldPut_ok ((valuesD d).map fun v => (v, v)) [] (.inl rfl) Ca.nil (fun p hp => by
    obtain ⟨v, _, rfl⟩ := List.mem_map.mp hp; exact Int.le_refl _) (by
    rw [List.pairwise_map]
    exact (valuesD_pw h).imp fun {a b} hab => .inl hab)
  refine Ca.ext h1 h fun x => ?_
  show Mem (foldPut _ _) x ↔ _
  rw [h2]
  constructor
  · rintro (a | ⟨q, hq, a, b⟩)
    · exact absurd a (mem_nil _)
    · obtain ⟨v, hv, rfl⟩ := List.mem_map.mp hq
      simp only at a b
      have : x = v := by omega
      rw [this]; exact valuesD_mem.mp hv
  · intro a
    exact .inr ⟨(x, x), List.mem_map.mpr ⟨x, valuesD_mem.mpr a, rfl⟩, Int.le_refl _, Int.le_refl _⟩
end Mine
end
section -- P7
set_option maxHeartbeats 400000
set_option linter.unusedVariables false
namespace Mine
/-- within the law's bound -/
def In (d : Dm) : Prop := ∀ p ∈ d, 0 - FAR - 1 < p.1 ∧ p.2 ≤ FAR
theorem In.mem {d : Dm} (h : In d) {x : Int} (hx : Mem d x) : 0 - FAR - 1 < x ∧ x ≤ FAR := by
  obtain ⟨p, hp, h1, h2⟩ := hx
  have := h p hp; omega
theorem in_of_mem {d : Dm} (hc : Ca d) (h : ∀ x, Mem d x → 0 - FAR - 1 < x ∧ x ≤ FAR) : In d := fun p hp =>
  ⟨(h p.1 (mem_lo hc hp)).1, (h p.2 ⟨p, hp, hc.1 p hp, Int.le_refl _⟩).2⟩
theorem outside_mem {d : Dm} (hc : Ca d) (h : In d) {x : Int} : Mem (outsideD d) x ↔ (0 - FAR - 1 < x ∧ x ≤ FAR) ∧ ¬ Mem d x := by
  rw [outside_eq]; exact outsG_mem FAR x d _ hc h
theorem outside_ca {d : Dm} (hc : Ca d) (h : In d) : Ca (outsideD d) := by rw [outside_eq]; exact outsG_ca FAR d _ hc h
theorem minus_eq {d e : Dm} (hd : Ca d) (he : Ca e) (id : In d) (ie : In e) : minusD d e = commonD d (outsideD e) := by
  have ho := outside_ca he ie
  rw [common_eq hd ho]
  refine Ca.ext (minus_ca he hd) (common_ca ho hd) fun x => ?_
  rw [minus_mem he, common_mem, outside_mem he ie]
  exact ⟨fun ⟨a, b⟩ => ⟨a, id.mem a, b⟩, fun ⟨a, _, b⟩ => ⟨a, b⟩⟩
theorem join_eq {d e : Dm} (hd : Ca d) (he : Ca e) (id : In d) (ie : In e) : joinD d e = outsideD (commonD (outsideD d) (outsideD e)) := by
  have h1 := outside_ca hd id
  have h2 := outside_ca he ie
  rw [common_eq h1 h2]
  have hc := common_ca h2 h1
  have hi : In (commonL (outsideD d) (outsideD e)) := in_of_mem hc fun x hx => ((outside_mem hd id).mp (common_mem.mp hx).1).1
  refine Ca.ext (join_ca hd he) (outside_ca hc hi) fun x => ?_
  rw [(join_ok hd he).2, outside_mem hc hi, common_mem, outside_mem hd id, outside_mem he ie]
  constructor
  · rintro (a | a)
    · exact ⟨id.mem a, fun ⟨⟨_, b⟩, _⟩ => b a⟩
    · exact ⟨ie.mem a, fun ⟨_, ⟨_, b⟩⟩ => b a⟩
  · rintro ⟨a, b⟩
    by_cases c : Mem d x
    · exact .inl c
    · by_cases c2 : Mem e x
      · exact .inr c2
      · exact absurd ⟨⟨a, c⟩, ⟨a, c2⟩⟩ b
theorem one_row {a b : Int} (h : a ≤ b) : Ca [(a, b)] := ⟨fun r hr => by rw [List.mem_singleton.mp hr]; exact h, by simp⟩
theorem one_row_mem {a b x : Int} : Mem [(a, b)] x ↔ a ≤ x ∧ x ≤ b := by
  rw [mem_cons]; exact ⟨fun h => h.elim id fun h => absurd h (mem_nil _), .inl⟩
theorem struck_eq {d : Dm} (sg : PySem.Str) {k : Int} (hd : Ca d) (id : In d) (hk : 0 - FAR < k ∧ k < FAR) : struckD sg k d = saidD d sg k := by
  unfold struckD saidD winD
  split
  · have hw := one_row (a := 0 - FAR) (b := k) (by omega)
    rw [common_eq hd hw]
    refine Ca.ext (upTo_ca hd) (common_ca hw hd) fun x => ?_
    rw [upTo_mem, common_mem, one_row_mem]
    exact ⟨fun ⟨a, b⟩ => ⟨a, by have := id.mem a; omega, b⟩, fun ⟨a, _, b⟩ => ⟨a, b⟩⟩
  split
  · have hw := one_row (a := k) (b := FAR) (by omega)
    rw [common_eq hd hw]
    refine Ca.ext (fromOn_ca hd) (common_ca hw hd) fun x => ?_
    rw [fromOn_mem, common_mem, one_row_mem]
    exact ⟨fun ⟨a, b⟩ => ⟨a, b, by have := id.mem a; omega⟩, fun ⟨a, b, _⟩ => ⟨a, b⟩⟩
  split
  · exact meet_eq hd (one_row (Int.le_refl k))
  · have hw : Ca [(0 - FAR, k - 1), (k + 1, FAR)] := by
      refine ⟨fun r hr => ?_, ?_⟩
      · rcases List.mem_cons.mp hr with rfl | hr
        · simp only; omega
        · rw [List.mem_singleton.mp hr]; simp only; omega
      · simp only [List.pairwise_cons, List.mem_singleton, forall_eq, List.not_mem_nil, false_implies, implies_true, List.Pairwise.nil, and_true, and_self]
        omega
    rw [common_eq hd hw]
    refine Ca.ext (without_ca hd) (common_ca hw hd) fun x => ?_
    rw [without_mem, common_mem, mem_cons, one_row_mem]
    constructor
    · rintro ⟨a, b⟩
      have := id.mem a
      refine ⟨a, ?_⟩
      by_cases c : x < k
      · exact .inl (by simp only; omega)
      · exact .inr (by omega)
    · rintro ⟨a, b | b⟩
      · simp only at b; exact ⟨a, by omega⟩
      · exact ⟨a, by omega⟩
theorem negated_sorted {d : Dm} (h : Ca d) : negatedD d = sortD (d.map fun p => (0 - p.2, 0 - p.1)) := by
  have e : negatedD d = (d.map fun p => (0 - p.2, 0 - p.1)).reverse := by
    unfold negatedD
    rw [← List.map_reverse]
    apply List.map_congr_left
    intro p _
    simp
  refine sortD_eq (by rw [e]; exact List.reverse_perm _) ?_
  have hc := negated_ca h
  refine hc.2.imp_of_mem fun {a b} ha hb hab => ?_
  have := hc.1 a ha
  exact .inl (by omega)
end Mine
end
section -- P8
set_option maxHeartbeats 400000
set_option linter.unusedVariables false
namespace Mine
theorem Cn.mem {B : Int} {d : Dm} (h : Cn B d) {x : Int} (hx : Mem d x) : -B ≤ x ∧ x ≤ B := by
  obtain ⟨p, hp, h1, h2⟩ := hx
  have := h.1 p hp; omega
theorem cn_of {B : Int} {d : Dm} (hc : Ca d) (h : ∀ x, Mem d x → -B ≤ x ∧ x ≤ B) : Cn B d := ⟨fun p hp => ⟨hc.1 p hp, (h p.1 (mem_lo hc hp)).1, (h p.2 ⟨p, hp, hc.1 p hp, Int.le_refl _⟩).2⟩, hc.2⟩
theorem far_val : FAR = 1000000000000000000000000000000000000000000000 := by unfold FAR; decide
theorem Cn.in {B : Int} {d : Dm} (h : Cn B d) (hB : B < FAR) : In d := fun p hp => by have := h.1 p hp; omega
theorem Cn.up {B B' : Int} {d : Dm} (h : Cn B d) (hB : B ≤ B') : Cn B' d := ⟨fun p hp => by have := h.1 p hp; omega, h.2⟩
theorem common_cn {B : Int} {d e : Dm} (hd : Cn B d) (he : Ca e) : Cn B (commonD d e) := by
  rw [common_eq hd.ca he]
  exact cn_of (common_ca he hd.ca) fun x hx => hd.mem (common_mem.mp hx).1
theorem join_cn {B : Int} {d e : Dm} (hd : Cn B d) (he : Cn B e) : Cn B (joinD d e) :=
  cn_of (join_ca hd.ca he.ca) fun x hx => ((join_ok hd.ca he.ca).2 x |>.mp hx).elim hd.mem he.mem
theorem shifted_cn {B k : Int} {d : Dm} (hd : Cn B d) (h0 : -B ≤ k) (h1 : k ≤ B) : Cn (B + B) (shiftedD d k) := by
  refine ⟨fun q hq => ?_, (shifted_ca hd.ca).2⟩
  obtain ⟨r, hr, rfl⟩ := List.mem_map.mp hq
  have := hd.1 r hr
  simp only; omega
theorem shifted_cn' {B k K : Int} {d : Dm} (hd : Cn B d) (h0 : -K ≤ k) (h1 : k ≤ K) : Cn (B + K) (shiftedD d k) := by
  refine ⟨fun q hq => ?_, (shifted_ca hd.ca).2⟩
  obtain ⟨r, hr, rfl⟩ := List.mem_map.mp hq
  have := hd.1 r hr
  simp only; omega
theorem negated_cn {B : Int} {d : Dm} (hd : Cn B d) : Cn B (negatedD d) := by
  refine ⟨fun q hq => ?_, (negated_ca hd.ca).2⟩
  obtain ⟨r, hr, rfl⟩ := List.mem_map.mp hq
  have := hd.1 r (by simpa using hr)
  simp only; omega
theorem common_len {d e : Dm} (hd : Ca d) (he : Ca e) : (commonL d e).length ≤ d.length + e.length := by
  rw [← common_eq hd he, ← meet_eq hd he]; exact meetD_len d e
theorem commonD_len {d e : Dm} (hd : Ca d) (he : Ca e) : (commonD d e).length ≤ d.length + e.length := by
  rw [common_eq hd he]; exact common_len hd he
theorem outside_len (d : Dm) : (outsideD d).length ≤ d.length + 1 := by
  unfold outsideD
  rw [List.length_map]
  refine Nat.le_trans (List.length_filter_le ..) ?_
  unfold rngL; simp
theorem join_len (d e : Dm) : (joinD d e).length ≤ d.length + e.length := by
  have := foldPut_len (sortD (d ++ e)) []
  rw [sortD_len, List.length_append] at this
  show (foldPut (sortD (d ++ e)) []).length ≤ _
  simpa using this
theorem shifted_len (d : Dm) (k : Int) : (shiftedD d k).length = d.length := by unfold shiftedD; simp
theorem negated_len (d : Dm) : (negatedD d).length = d.length := by unfold negatedD; simp
theorem win_len (sg : PySem.Str) (k : Int) : (winD sg k).length ≤ 2 := by
  unfold winD
  split
  · simp
  split
  · simp
  split <;> simp
theorem win_ca (sg : PySem.Str) {k : Int} (hk : 0 - FAR < k ∧ k < FAR) : Ca (winD sg k) := by
  unfold winD
  split
  · exact one_row (by omega)
  split
  · exact one_row (by omega)
  split
  · exact one_row (Int.le_refl _)
  · refine ⟨fun r hr => ?_, ?_⟩
    · rcases List.mem_cons.mp hr with rfl | hr
      · simp only; omega
      · rw [List.mem_singleton.mp hr]; simp only; omega
    · simp only [List.pairwise_cons, List.mem_singleton, forall_eq, List.not_mem_nil, false_implies, implies_true, List.Pairwise.nil, and_true, and_self]
      omega
/-- many values: the span is as wide -/
theorem span {d : Dm} (h : Ca d) : ∀ {pf pl : Int × Int}, d.head? = some pf → d.getLast? = some pl → sizeD d ≤ pl.2 - pf.1 + 1 := by
  induction d with
  | nil => intro pf pl h1; simp at h1
  | cons p d ih =>
    intro pf pl h1 h2
    simp at h1; subst h1
    cases d with
    | nil => simp at h2; subst h2; unfold sizeD; simp
    | cons q d =>
      have h3 : (q :: d).getLast? = some pl := by rw [List.getLast?_cons_cons] at h2; exact h2
      have := ih h.tail rfl h3
      have g := h.gap (mem_lo h.tail (List.mem_cons_self ..))
      have e : sizeD (p :: q :: d) = (p.2 - p.1 + 1) + sizeD (q :: d) := by unfold sizeD; simp
      rw [e]; omega
end Mine
end
section -- R1
open PySem PySem.W PyProof.Rows PySem.Calls
set_option maxRecDepth 100000
set_option maxHeartbeats 400000
set_option linter.unusedVariables false
namespace Mine

/-- an own exception class, by what its line of classes holds -/
structure XC (h : Heap) (C N : Addr) (B newId : String) (o : Obj) : Prop where
  at_ : h.get? C = some o
  ex : ∃ nm q bs bm hdct sn sub ab col dd k0 k1 k2 k3 k5, o = excClassObj nm q C N bs bm hdct sn sub ab col dd k0 k1 k2 k3 k5 newId ∧ bm.contains (.type B) = true ∧ bm.contains (.type "BaseException") = true ∧ bm.contains (.type "AttributeError") = false ∧ bm.contains (.type "NameError") = false
theorem XC.up {h h' : Heap} {C N : Addr} {B newId : String} {o : Obj} (x : XC h C N B newId o) (k : h.StaysIn h') : XC h' C N B newId o := ⟨k _ _ x.at_, x.ex⟩

section
variable {prog : Program} {w : World} {M : Model} {A : Around} {E : Value → Shared → Prop} {h : Heap} {g : Array GenState} {d : Drawn} {t : Nat} {os : OsState}
variable {C N : Addr} {bmB : List Value} {B newId initId : String} {o : Obj} {rest : List Value}

theorem xc_check (F : ExcBaseFacts B newId initId bmB) (X : XC h C N B newId o) {Q : Unit → Shared → Prop} (hq : Q () ⟨h, g, d, t, os⟩) :
    wpAny M A (checkBuiltinCall newId ⟨.ref C :: rest, []⟩) Q E ⟨h, g, d, t, os⟩ := by
  obtain ⟨hC, nm, q, bs, bm, hdct, sn, sub, ab, col, dd, k0, k1, k2, k3, k5, rfl, hB, -, -, -⟩ := X
  have hcont : (Value.ref C :: bm).contains (.type B) = true := by rw [List.contains_cons, hB, Bool.or_true]
  have hstar := F.noStar
  simp only [checkBuiltinCall, F.newKind, F.newSplit, F.newRow]
  repeat (first | refine wpAny_loadPart_at hC ?_ | (refine wpAny_isSubtype_exc hC ?_; rw [hcont]) | refine wpAny_staticBase_exc hC ?_ | refine wpAny_madeBy_exc hC ?_ | simp only [bne_self_eq_false, Bool.false_eq_true, if_false] | wp_step)
  exact hq

abbrev rawExc (C t : Addr) : Obj := { cls := .ref C, data := .fields #[.ref t, .none, .none, .none, .bool false, .none] }

theorem xc_new (F : ExcBaseFacts B newId initId bmB) (X : XC h C N B newId o) {R : Result → Shared → Prop}
    (hq : R (.ok (.ret (.ref (h.objs.size + 1)))) ⟨(h.push { cls := .type "tuple", data := .seq rest.toArray }).push (rawExc C h.objs.size), g, d, t, os⟩) (hrest : rest.length ≤ sizeLine) :
    codeAny (model prog w) A (.builtin newId ⟨.ref C :: rest, []⟩) R ⟨h, g, d, t, os⟩ := by
  obtain ⟨hC, nm, q, bs, bm, hdct, sn, sub, ab, col, dd, k0, k1, k2, k3, k5, rfl, hB, -, hA, hN⟩ := X
  have hends := F.ends
  have hcB : (Value.ref C :: bm).contains (.type B) = true := by rw [List.contains_cons, hB, Bool.or_true]
  have hcA : (Value.ref C :: bm).contains (.type "AttributeError") = false := by rw [List.contains_cons, hA]; rfl
  have hcN : (Value.ref C :: bm).contains (.type "NameError") = false := by rw [List.contains_cons, hN]; rfl
  refine codeAny_builtinAt F.entry ?_
  unfold Builtin.«BaseException.__new__»
  refine _root_.PySem.wpAt_bind ?_
  show _root_.PySem.wpAt _ _ _ (stack >>= _) _ _ _
  refine _root_.PySem.wpAt_bind (_root_.PySem.wpAt_stack fun p below => _root_.PySem.wpAt_of_wpAny ?_)
  wp_walk
  refine _root_.PySem.wpAt_of_wpAny ?_
  rw [F.owner]
  repeat (first | with_reducible refine wpAny_madeHere_exc F.canon hC ?_ | with_reducible refine wpAny_loadPart_at hC ?_ | (with_reducible refine wpAny_isSubtype_exc hC ?_; first | rw [hcB] | rw [hcA] | rw [hcN]) | wp_step)
  show R _ _
  rw [Heap.size_push]
  exact hq

theorem xc_type_call (F : ExcBaseFacts B newId initId bmB) (X : XC h C N B newId o) {fI : Addr} {oI : Obj} {Q : Fin → Shared → Prop}
    (hi : Looks (model prog w) h (typeLookup (.ref C) "__init__") (some (.ref fI)))
    (hfI : h.get? fI = some oI) (hfc : oI.cls = .type "function") (hrest : rest.length ≤ sizeLine)
    (hq : ∀ h' e, e = h.objs.size + 1 → h' = (h.push { cls := .type "tuple", data := .seq rest.toArray }).push (rawExc C h.objs.size) →
      wpAny (model prog w) A (call (.ref fI) (.ref e :: rest)) (fun r s' => r = .none ∧ Q (.done (.ret (.ref e))) s') E ⟨h', g, d, t, os⟩) :
    wpAny (model prog w) A (Builtin.«type.__call__» ⟨.ref C :: rest, []⟩) Q E ⟨h, g, d, t, os⟩ := by
  have X' := X
  obtain ⟨hC, nm, q, bs, bm, hdct, sn, sub, ab, col, dd, k0, k1, k2, k3, k5, rfl, hB, -, hA, hN⟩ := X
  repeat (first | with_reducible refine wpAny_loadPart_at hC ?_ | with_reducible refine wpAny_madeBy_exc hC ?_ | wp_step)
  refine codeAny_call_builtin_code (Code.quiet_builtin _ F.quiet) (xc_check F X' ?_)
  refine xc_new F X' ?_ hrest
  show wpAny _ _ _ _ _ _
  have up : h.StaysIn ((h.push { cls := .type "tuple", data := .seq rest.toArray }).push (rawExc C h.objs.size)) := fun b o e => Heap.get?_push_of_some _ (Heap.get?_push_of_some _ e)
  have hC₁ := up _ _ hC
  have hfI₁ := up _ _ hfI
  have hi₁ := hi.keeps up
  have hget : ((h.push { cls := .type "tuple", data := .seq rest.toArray }).push (rawExc C h.objs.size)).get? (h.objs.size + 1) = some (rawExc C h.objs.size) := by
    have := Heap.get?_push_size (h.push { cls := .type "tuple", data := .seq rest.toArray }) (o := rawExc C h.objs.size) rfl
    rwa [Heap.size_push] at this
  have hq' := hq _ _ rfl rfl
  generalize hH : (h.push { cls := .type "tuple", data := .seq rest.toArray }).push (rawExc C h.objs.size) = H at *
  have hcC : (Value.ref C :: bm).contains (.ref C) = true := by simp
  unfold isInstance
  repeat (first | with_reducible refine wpAny_loadPart_at hget ?_ | (with_reducible refine wpAny_isSubtype_exc hC₁ ?_; rw [hcC]) | wp_step)
  show wpAny _ _ (typeLookup (.ref C) _) _ _ _
  refine hi₁.at ?_
  refine wpAny_holding (wpAny_bind ?_)
  unfold bindSpecial
  refine wpAny_bind (wpAny_typeOf (T := "function") ⟨_, hfI₁, hfc⟩ ?_)
  rw [if_pos (by decide)]
  refine wpAny_pure (wpAny_bind (wpAny_mono hq' (fun r s' hr => ?_) fun _ _ x => x))
  obtain ⟨rfl, hQ⟩ := hr
  wp_walk
  exact hQ

theorem xc_call (F : ExcBaseFacts B newId initId bmB) (X : XC h C N B newId o) {fI : Addr} {oI : Obj} {Q : Value → Shared → Prop}
    (hi : Looks (model prog w) h (typeLookup (.ref C) "__init__") (some (.ref fI)))
    (hfI : h.get? fI = some oI) (hfc : oI.cls = .type "function") (hrest : rest.length ≤ sizeLine)
    (hq : ∀ h' e, e = h.objs.size + 1 → h' = (h.push { cls := .type "tuple", data := .seq rest.toArray }).push (rawExc C h.objs.size) →
      wpAny (model prog w) (A.under (.builtin "type.__call__" ⟨.ref C :: rest, []⟩)) (call (.ref fI) (.ref e :: rest)) (fun r s' => r = .none ∧ Q (.ref e) s') E ⟨h', g, d, t, os⟩) :
    wpAny (model prog w) A (call (.ref C) rest) Q E ⟨h, g, d, t, os⟩ := by
  have f1 := tc_lookup
  have f2 := tc_bind (.ref C)
  have X' := X
  obtain ⟨hC, nm, q, bs, bm, hdct, sn, sub, ab, col, dd, k0, k1, k2, k3, k5, rfl, hB, -, hA, hN⟩ := X
  have hT : (⟨h, g, d, t, os⟩ : Shared).TypeIs (.ref C) "type" := ⟨_, hC, rfl⟩
  refine wpAny_call (codeAny_of_tree ?_)
  show wpAny _ _ (callAny (.ref C) _) _ _ _
  repeat (any_goals (first | assumption | with_reducible refine wpAny_loadPart_at hC ?_ | wp_step))
  refine ⟨rfl, ?_⟩
  exact codeAny_call_builtin_at (Code.quiet_builtin _ (by decide +kernel)) entry_typeCall (wpAny_check_type_call_sub hC (xc_type_call F X' hi hfI hfc hrest hq))
end
end Mine
end
section -- R2
open PySem PySem.W PyProof.Rows PySem.Calls
set_option maxRecDepth 100000
set_option maxHeartbeats 400000
set_option linter.unusedVariables false
namespace Mine

theorem ei_type : typeOf (.builtin "Exception.__init__") = pure (.type "wrapper_descriptor") := by kernel_rfl
theorem slot_wd_get : Slot "wrapper_descriptor" "__get__" "wrapper_descriptor.__get__" := .of (owner := "wrapper_descriptor") (n := "__get__") (by rw [typeLookup_type, builtinLookup_eq_fast]; kernel_rfl) (by decide +kernel) (by decide +kernel) (by decide +kernel)
  (by first | exact .inl (by decide +kernel) | exact .inr (by decide +kernel)) (by rw [isSubtype_type]; kernel_rfl)
theorem entry_wd_get : entryFor table "wrapper_descriptor.__get__" = some Builtin.«wrapper_descriptor.__get__» := entryFor_of_tree (by kernel_rfl)
theorem args_wd_get (a b c : Value) : argsOk "wrapper_descriptor.__get__" ⟨[a, b, c], []⟩ := by unfold argsOk; kernel_rfl

section
variable {prog : Program} {w : World} {A : Around} {E : Value → Shared → Prop} {h : Heap} {g : Array GenState} {d : Drawn} {t : Nat} {os : OsState}
abbrev mwObj (x : Addr) : Obj := { cls := .type "method-wrapper", data := .fields #[.builtin "Exception.__init__", .ref x] }
theorem ei_owner : (".".intercalate ("Exception.__init__".cutAt '.').dropLast) = "Exception" := by decide +kernel
theorem wd_get {x C : Addr} {ox : Obj} {Q : Fin → Shared → Prop} (hx : h.get? x = some ox) (hc : ox.cls = .ref C) (hs : Looks (model prog w) h (isSubtype (.ref C) (.type "Exception")) true)
    (hq : Q (.done (.ret (.ref h.objs.size))) ⟨h.push (mwObj x), g, d, t, os⟩) :
    wpAny (model prog w) A (Builtin.«wrapper_descriptor.__get__» ⟨[.builtin "Exception.__init__", .ref x, .ref C], []⟩) Q E ⟨h, g, d, t, os⟩ := by
  unfold Builtin.«wrapper_descriptor.__get__»
  repeat (first | (with_reducible refine wpAny_loadPart_at hx ?_; rw [hc]) | rw [ei_owner] | (with_reducible refine Looks.at hs ?_) | wp_step)
  all_goals exact hq

/-- super().__init__, where the next class along is built in -/
theorem sg_init {so D x C : Addr} {ox : Obj} {l₀ l : List Value} {K : Frag} {tk : Tok} {Q : Fin → Shared → Prop}
    (hso : h.get? so = some { cls := .type "super", dict := none, data := .fields #[.ref D, .ref x, .ref C], slots := #[] }) (hno : Looks (model prog w) h (opaqueClassAbove (.ref C)) none)
    (hC : Looks (model prog w) h (mroOf (.ref C)) l₀) (hl : (l₀.dropWhile (· != .ref D)).drop 1 = l) (X : K.In h)
    (hf : alongIn K "__init__" l = some (some (.builtin "Exception.__init__"))) (hx : h.get? x = some ox) (hc : ox.cls = .ref C) (hs : Looks (model prog w) h (isSubtype (.ref C) (.type "Exception")) true) (hxC : x ≠ C)
    (hq : Q (.done (.ret (.ref h.objs.size))) ⟨h.push (mwObj x), g, d, t, os⟩) :
    wpAny (model prog w) A (Builtin.«super.__getattribute__» ⟨[.ref so, .str "__init__" tk], []⟩) Q E ⟨h, g, d, t, os⟩ := by
  have hlk := slot_wd_get.lookup
  have hne : (Value.ref x == Value.ref C) = false := by simp [hxC]
  have hT : (⟨h, g, d, t, os⟩ : Shared).TypeIs (.builtin "Exception.__init__") "wrapper_descriptor" := ei_type
  have hn : ((Str.ofString "__init__") == (Str.ofString "__class__")) = false := by decide
  have hdt : ({ cls := .type "super", dict := none, data := .fields #[.ref D, .ref x, .ref C], slots := #[] } : Obj).data = .fields #[.ref D, .ref x, .ref C] := rfl
  have f0 : (#[.ref D, .ref x, .ref C] : Array Value)[0]? = some (.ref D) := rfl
  have f1 : (#[.ref D, .ref x, .ref C] : Array Value)[1]? = some (.ref x) := rfl
  have f2 : (#[.ref D, .ref x, .ref C] : Array Value)[2]? = some (.ref C) := rfl
  unfold Builtin.«super.__getattribute__»
  repeat (first
    | (with_reducible refine wpAny_field hso hdt f0 ?_) | (with_reducible refine wpAny_field hso hdt f1 ?_) | (with_reducible refine wpAny_field hso hdt f2 ?_)
    | (with_reducible refine ks_wpAny_notOpaque hno ?_)
    | (with_reducible refine Looks.at hC ?_; rw [hl])
    | (refine ks_forIn_along X (fun _ _ => rfl) rfl ?_ hf)
    | (with_reducible refine wpAny_typeOf hT ?_)
    | (with_reducible refine wpAny_call_entry slot_wd_get hT entry_wd_get ?_ (args_wd_get _ _ _))
    | (with_reducible refine wd_get hx hc hs ?_)
    | (with_reducible refine ⟨_, rfl, ?_⟩)
    | (simp only [hn, hne, Bool.or_false, Bool.false_eq_true, if_false])
    | wp_step
    | dsimp only)
  all_goals exact hq

theorem sg_method {so D x C : Addr} {ox : Obj} {l₀ l : List Value} {K : Frag} {pl : Sem Bool} {Q : Value × List Value → Shared → Prop}
    (hso : h.get? so = some { cls := .type "super", dict := none, data := .fields #[.ref D, .ref x, .ref C], slots := #[] }) (hno : Looks (model prog w) h (opaqueClassAbove (.ref C)) none)
    (hC : Looks (model prog w) h (mroOf (.ref C)) l₀) (hl : (l₀.dropWhile (· != .ref D)).drop 1 = l) (X : K.In h)
    (hf : alongIn K "__init__" l = some (some (.builtin "Exception.__init__"))) (hx : h.get? x = some ox) (hc : ox.cls = .ref C) (hs : Looks (model prog w) h (isSubtype (.ref C) (.type "Exception")) true) (hxC : x ≠ C)
    (hq : Q (.ref h.objs.size, []) ⟨h.push (mwObj x), g, d, t + 1, os⟩) :
    wpAny (model prog w) A (getMethod (.ref so) "__init__" pl) Q E ⟨h, g, d, t, os⟩ := by
  have hlk := PySem.F.ks_slot_super_ga.lookup
  have hcan := PySem.F.ks_canon_super_ga
  have hT : ∀ t', (⟨h, g, d, t', os⟩ : Shared).TypeIs (.ref so) "super" := fun _ => ⟨_, hso, rfl⟩
  unfold getMethod
  refine wpAny_bind (wpAny_specialOf (hT _) hlk ?_)
  show wpAny _ _ (if (Manifest.canonical "super.__getattribute__" != "object.__getattribute__") = true then _ else _) _ _ _
  rw [if_pos hcan]
  unfold getAttr getAttrBy
  refine wpAny_bind (wpAny_bind (wpAny_mkText (wpAny_holding (wpAny_bind (wpAny_typeOf (hT _) (wpAny_bind (wpAny_of_eq hlk ?_)))))))
  show wpAny _ _ (getAttrByItsOwn (.ref so) (.str "__init__" t) (.type "super") (.builtin "super.__getattribute__") true false) _ _ _
  unfold getAttrByItsOwn hookBefore callGetattribute boundAndCalled
  refine wpAny_bind (wpAny_of_eq (show (if onTheHeap (.type "super") then typeLookup (.type "super") "__getattr__" else pure none) = pure none from rfl) ?_)
  refine wpAny_bind (wpAny_attempt (wpAny_holding ?_))
  show wpAny _ _ (bindSpecial (.builtin "super.__getattribute__") (.ref so) >>= _) _ _ _
  refine wpAny_bind (wpAny_of_eq (PySem.F.ks_slot_super_ga.bind _) ?_)
  refine wpAny_mono (Q := fun v s' => v = .ref h.objs.size ∧ s' = ⟨h.push (mwObj x), g, d, t + 1, os⟩) (E := fun _ _ => False)
    (wpAny_call_entry PySem.F.ks_slot_super_ga (hT _) PySem.F.ks_entry_super_ga (sg_init hso hno hC hl X hf hx hc hs hxC ⟨_, rfl, rfl, rfl⟩) (PySem.F.ks_gaArgs_super _ _)) (fun v s' hv => ?_) fun _ _ z => z.elim
  obtain ⟨rfl, rfl⟩ := hv
  exact wpAny_pure (wpAny_pure hq)

theorem mw_call {mw x C N t0 : Addr} {B newId : String} {oC : Obj} {v : Value} {Q : Value → Shared → Prop} (X : XC h C N B newId oC) (hmw : h.get? mw = some (mwObj x)) (hx : h.get? x = some (rawExc C t0))
    (hq : ∀ h', h'.get? x = some (rawExc C h.objs.size) → h'.get? h.objs.size = some { cls := .type "tuple", data := .seq [v].toArray } → (∀ b o, b ≠ x → h.get? b = some o → h'.get? b = some o) → Q .none ⟨h', g, d, t, os⟩) :
    wpAny (model prog w) A (call (.ref mw) [v]) Q E ⟨h, g, d, t, os⟩ := by
  have F := PySem.F.excCall_Exception
  have hsig := F.initRow
  have hkind := F.initKind
  have hcheck : ∀ (a b : String) (n : Nat), Bind.check ⟨.positional, "*", "Exception", .self, [⟨"args", .varPos, false⟩]⟩ a b n [] = pure () := fun a b n => check_star_args _ _ _ _ _ _
  refine wpAny_call (codeAny_of_tree ?_)
  show wpAny _ _ (callAny (.ref mw) _) _ _ _
  unfold callAny
  refine wpAny_bind (wpAny_load hmw ?_)
  show wpAny _ _ (checkBoundCall "Exception.__init__" ⟨[.ref x, v], []⟩ >>= fun _ => again (.builtin "Exception.__init__" ⟨[.ref x, v], []⟩)) _ _ _
  refine wpAny_bind ?_
  unfold checkBoundCall
  simp only [hsig, hkind]
  rw [if_pos (by decide)]
  unfold Bind.checkArgs
  have hstar := F.noStar
  obtain ⟨hC, nm, q, bs, bm, hdct, sn, sub, ab, col, dd, k0, k1, k2, k3, k5, rfl, -, -, -, -⟩ := X
  repeat (first | with_reducible refine wpAny_loadPart_at hx ?_ | with_reducible refine wpAny_loadPart_at hC ?_ | wp_step)
  refine ⟨Code.quiet_builtin _ (by decide +kernel), codeAny_builtin F.initEntry ?_⟩
  unfold Builtin.«BaseException.__init__»
  wp_walk
  have hx₁ : (h.push { cls := .type "tuple", data := .seq #[v] }).get? x = some (rawExc C t0) := Heap.get?_push_of_some _ hx
  show Q _ _
  refine hq _ ?_ ?_ ?_
  · exact Heap.get?_update_self _ hx₁ rfl
  · rw [Heap.get?_update_other _ _ (Nat.ne_of_lt (Heap.lt_size hx))]; exact Heap.get?_push_at rfl rfl
  · intro b o hb e
    rw [Heap.get?_update_other _ _ (Ne.symm hb)]; exact Heap.get?_push_of_some _ e

open Builtin Builtin.ObjectAttr in
theorem xs_store {x C N : Addr} {nm q : Str} {bs bm : List Value} {sn : List Str} {sub : List Value} {ab : Bool} {col : Option Bool} {dd : Option Addr} {k0 k1 k2 k3 k5 : Option Value} {newId : String} {o : Obj} {name : Str} {tk : Tok} {v : Value} {l : List Value} {Q : Fin → Shared → Prop}
    (hC : h.get? C = some (excClassObj nm q C N bs bm true sn sub ab col dd k0 k1 k2 k3 k5 newId)) (hx : h.get? x = some o) (hc : o.cls = .ref C) (hdn : o.dict = none) (hnc : ∀ c, o.data ≠ .cls c)
    (hm : Looks (model prog w) h (mroOf (.ref C)) l) (hpass : refuseLoop (.ref x) "__setattr__" l = pure ()) (hn : Looks (model prog w) h (typeLookup (.ref C) name) none)
    (hq : ∀ h' tk', h'.get? x = some { o with dict := some h.objs.size } → (∀ b o, b ≠ x → h.get? b = some o → h'.get? b = some o) → Q (.done (.ret .none)) ⟨h', g, d, tk', os⟩) :
    wpAny (model prog w) A (Builtin.«object.__setattr__» ⟨[.ref x, .str name tk, v], []⟩) Q E ⟨h, g, d, t, os⟩ := by
  unfold Builtin.«object.__setattr__»
  repeat (first | rw [refuse_eq] | rw [hpass] | (with_reducible refine wpAny_loadPart_at hx ?_; rw [hc]) | with_reducible refine hm.at ?_ | with_reducible refine hn.at ?_ | (with_reducible refine wpAny_loadPart_at hC ?_) | wp_step)
  rw [hdn, if_neg (by simp [typeHasDict])]
  split
  · rename_i hcd; cases hcd
  split
  · rename_i c hcd; exact absurd hcd (hnc c)
  have hx₁ : (h.push { cls := .type "dict", data := .dict #[] }).get? x = some o := Heap.get?_push_of_some _ hx
  have hxs : x ≠ h.objs.size := Nat.ne_of_lt (Heap.lt_size hx)
  refine wpAny_bind (wpAny_alloc' (wpAny_bind (wpAny_update' hx₁ (wpAny_pure ?_))))
  have hgd : ((h.push { cls := .type "dict", data := .dict #[] }).update x fun o => { cls := o.cls, dict := some h.objs.size, data := o.data, slots := o.slots }).get? h.objs.size = some { cls := .type "dict", data := .dict #[] } :=
    (Heap.get?_update_ne _ _ _ _ hxs.symm).trans (Heap.get?_push_at rfl rfl)
  have hnd : ((h.push { cls := .type "dict", data := .dict #[] }).update x fun o => { cls := o.cls, dict := some h.objs.size, data := o.data, slots := o.slots }).Ns h.objs.size (fun _ => none) :=
    ⟨_, #[], _, hgd, rfl, fun e he => absurd he (by simp), fun _ => rfl⟩
  have hfree : (({ cls := o.cls, dict := some h.objs.size, data := o.data, slots := o.slots } : Obj)).isFreed = false := by
    have hfr := (Heap.get?_some_iff.mp hx).2
    obtain ⟨oc, od, odt, osl⟩ := o
    cases odt <;> first | rfl | exact hfr
  show wpAny _ _ (storeInDict h.objs.size (.str name tk) name v) _ _ _
  unfold storeInDict newKeyGuard
  refine wpAny_bind (wpAny_pure (wpAny_bind (wpAny_nsSet1 (Heap.Ns1.of_empty hnd) fun h' hn' hs => ?_)))
  obtain ⟨oD, esD, epD, hoD, hdD, hcD⟩ := hn'.count (Within.cons name v Within.nil)
  refine wpAny_bind (wpAny_lookBehind hoD (by rw [hdD]; exact pastItsLine_dict (Nat.le_trans hcD (by rw [List.length_cons, List.length_nil, sizeLine_eq]; omega))) ?_)
  refine wpAny_pure (hq h' _ ?_ ?_)
  · exact (hs.2 x hxs).trans (Heap.get?_update_self _ hx₁ hfree)
  · intro b ob hbx hb
    exact (hs.2 b (Nat.ne_of_lt (Heap.lt_size hb))).trans ((Heap.get?_update_ne _ _ _ _ hbx).trans (Heap.get?_push_of_some _ hb))

theorem xs_attr {x C N : Addr} {nm q : Str} {bs bm : List Value} {sn : List Str} {sub : List Value} {ab : Bool} {col : Option Bool} {dd : Option Addr} {k0 k1 k2 k3 k5 : Option Value} {newId : String} {o : Obj} {name : Str} {v : Value} {l : List Value} {Q : Unit → Shared → Prop}
    (hC : h.get? C = some (excClassObj nm q C N bs bm true sn sub ab col dd k0 k1 k2 k3 k5 newId)) (hx : h.get? x = some o) (hc : o.cls = .ref C) (hdn : o.dict = none) (hnc : ∀ c, o.data ≠ .cls c)
    (hm : Looks (model prog w) h (mroOf (.ref C)) l) (hpass : refuseLoop (.ref x) "__setattr__" l = pure ()) (hn : Looks (model prog w) h (typeLookup (.ref C) name) none)
    (hsa : Looks (model prog w) h (typeLookup (.ref C) "__setattr__") (some (.builtin "object.__setattr__"))) (hob : Looks (model prog w) h (isSubtype (.ref C) (.type "object")) true)
    (hq : ∀ h' tk', h'.get? x = some { o with dict := some h.objs.size } → (∀ b o, b ≠ x → h.get? b = some o → h'.get? b = some o) → Q () ⟨h', g, d, tk', os⟩) :
    wpAny (model prog w) A (setAttr (.ref x) name v) Q E ⟨h, g, d, t, os⟩ := by
  have SF := PySem.F.store_object
  have f3 := SF.slot.bind (.ref x)
  unfold setAttr callSpecial? specialOf
  repeat (any_goals (first | assumption | (with_reducible refine wpAny_loadPart_at hx ?_; rw [hc]) | with_reducible refine hsa.at ?_ | wp_step))
  have it : Looks (model prog w) h (isInstance (.ref x) (.type "object")) true := ((Looks.ld hx).andThen (by rw [hc]; exact .now)).andThen hob
  refine codeAny_call_builtin SF.slot.plain SF.entry (@check_slot (model prog w) _ _ ⟨h, g, d, t + 1, os⟩ "object.__setattr__" "object" "__setattr__" (.ref x) [.str name t, v] [] _ SF.kind SF.split it (SF.args (.ref x) (.str name t) v) ?_)
  refine xs_store hC hx hc hdn hnc hm hpass hn fun h' tk' h1 h2 => ?_
  repeat (any_goals (first | assumption | wp_step))
  exact hq h' tk' h1 h2
end
end Mine
end
section -- R3
open PySem PySem.W PyProof.Rows PySem.Calls
set_option maxRecDepth 100000
set_option maxHeartbeats 400000
set_option linter.unusedVariables false
namespace Mine
theorem fillR3 : (PySem.Challenge.rw_qd0006_01, Mine.hd.heap_39) = (PySem.Challenge.rw_qd0006_01, Mine.hd.heap_39) := by k_fill; rfl

theorem enterS {prog : Program} {w : World} {A : Around} {s : Shared} {K : Frag} {g : Heap}
    {name qual : Str} {params : Arguments} {body : List Stmt} {scope : Scope} {dV kV doc pm cdv ct oc : Value} {an od : Option Addr} {osl : Array (Option Value)} {f cc : Addr} {args : List Value} {binds : List (Str × Value)} {Q : Value → Shared → Prop} {E : Value → Shared → Prop}
    (hg : g.StaysIn s.heap) (X : K.In g) (hlim : g.NoLimit)
    (ho : K.lookup f = some ⟨oc, od, .func (ksFn name qual params body scope dV kV doc pm an cdv ct cc), osl⟩) (hcd : codeIn K cdv qual = true) (hroom : A.depth < recursionLimit)
    (hbind : bindArgs (ksFn name qual params body scope dV kV doc pm an cdv ct cc) ⟨args, []⟩ = pure binds) (hloc : ∀ y ∈ binds, scope.names.lookup y.1 = some .local)
    (h : ∀ L h₁ tk, s.heap.get? L = none → s.heap.StaysIn h₁ → h₁.Ns L (fun y => binds.reverse.lookup y) →
      _root_.PySem.wpAt (model prog w) (A.deeper (ksEnv qual scope L f cdv cc)) (.func body (ksEnv qual scope L f cdv cc)) (execs body (ksEnv qual scope L f cdv cc))
        (fun fl s' => Q (match fl with | .ret v => v | _ => .none) s') (fun _ _ => False) { s with heap := h₁, toks := tk })
    (hcell : ∀ x ∈ scope.names, x.2 ≠ .cell) (hco : scope.isCoroutine = false) (hgen : scope.isGenerator = false) (hk : scope.kind = .function) : wpAny (model prog w) A (call (.ref f) args) Q E s := by
  refine wpAny_noRaise (wpAny_call ?_)
  refine ks_codeAny_call_defAt (fd := ksFn name qual params body scope dV kV doc pm an cdv ct cc) (body := body) (binds := binds) hroom (hg _ _ (X _ _ ho)) rfl (hlim.keeps hg) (codeRec_of (X.keeps hg) hcd) rfl (.of_eq hbind) hcell hloc (fun h₁ hns hk₁ => ?_) hco hgen hk
  exact ks_wpAt_mono (h s.heap.objs.size h₁ _ (Heap.get?_none_of_le (Nat.le_refl _)) hk₁ hns) (fun fl s' hl => hl) fun _ _ x => x.elim

theorem ns_super (w : World) : nsIn (hd.heap_39 w.params) mainGlobals "super" = some none := by k_is
theorem bb_super : bootBuiltins "super" = some (.type "super") := PyProof.Rows.Boot.«super»
theorem mro53 (w : World) : ∃ cd, clsIn (hd.heap_39 w.params) 53 = some cd ∧ cd.mro = [.ref 53, .ref 40, .type "Exception", .type "BaseException", .type "object"] := ⟨_, by k_is, rfl⟩
theorem cls40 (w : World) : ∃ cd, clsIn (hd.heap_39 w.params) 40 = some cd := ⟨_, by k_is⟩
theorem sub53_40 (w : World) : mroIn (hd.heap_39 w.params) 53 (.ref 40) = some true := by k_is
theorem sub53_E (w : World) : mroIn (hd.heap_39 w.params) 53 (.type "Exception") = some true := by k_is
theorem sub53_o (w : World) : mroIn (hd.heap_39 w.params) 53 (.type "object") = some true := by k_is
theorem find53_init (w : World) : findIn (hd.heap_39 w.params) (.ref 53) "__init__" = some (some (.ref 30)) := by k_is
theorem find53_sa (w : World) : findIn (hd.heap_39 w.params) (.ref 53) "__setattr__" = some (some (.builtin "object.__setattr__")) := by k_is
theorem find53_what (w : World) : findIn (hd.heap_39 w.params) (.ref 53) "what" = some none := by k_is
theorem opq53 (w : World) : nsIn (hd.heap_39 w.params) cStatics "thirdparty.any" = some none := by k_is
theorem along53 (K : Frag) : alongIn K "__init__" [.type "Exception", .type "BaseException", .type "object"] = some (some (.builtin "Exception.__init__")) := by kernel_rfl
theorem at53 (w : World) : ∃ nm q N bs sn sub ab col dd k0 k1 k2 k3 k5, (hd.heap_39 w.params).lookup 53 = some (excClassObj nm q 53 N bs [.ref 40, .type "Exception", .type "BaseException", .type "object"] true sn sub ab col dd k0 k1 k2 k3 k5 "Exception.__new__") :=
  ⟨_, _, _, _, _, _, _, _, _, _, _, _, _, _, by k_is⟩
section
variable {M : Model} {A : Around} {E : Value → Shared → Prop} {s : Shared} {env : Env} {pos : Pos} {first : List Value} {Q : Value → Shared → Prop}
theorem callWith_mw {mw x : Addr} {e : Expr} {rest : List Expr} (h : wpAny M A (spliced (backTo pos (starEach (e :: rest) env))) (fun vs s₁ => s₁.heap.get? mw = some (mwObj x) ∧ wpAny M A (call (.ref mw) (first ++ vs)) Q E s₁) E s)
    (he : starEach (e :: rest) env = (false, eval e env) :: starEach rest env := by rfl) (hplain : (backTo pos (starEach rest env)).any (·.1) = false := by rfl) :
    wpAny M A (callWith pos (.ref mw) first (backTo pos (starEach (e :: rest) env)) []) Q E s := by
  rw [he] at h ⊢
  exact callWith_of (P := fun h => h.get? mw = some (mwObj x)) (by show ((false || (backTo pos (starEach rest env)).any (·.1)) || false) = false; rw [hplain]; rfl)
    (fun h hp => ⟨.machine, .inr (.inl rfl), (Looks.ld (part := none) hp).andThen .now⟩) (evalArgs_plain h)
end

theorem init_spec {w : World} {A : Around} {mean : ExcName → Option Value} {mg mb : Str → Option Value} {g : Heap} {s : Shared} {x t0 : Addr} {v : Value} {Q : Value → Shared → Prop} {E : Value → Shared → Prop}
    (c : Cx w mean mg mb g) (hg : g.StaysIn s.heap) (hgx : g.get? x = none) (r : Rm A 1) (hx : s.heap.get? x = some (rawExc 53 t0))
    (k : ∀ h' tk t1 dx, (∀ b o, b ≠ x → s.heap.get? b = some o → h'.get? b = some o) → h'.get? x = some { rawExc 53 t1 with dict := some dx } → Q .none { s with heap := h', toks := tk }) :
    wpAny (model pg w) A (call (.ref 30) [.ref x, v]) Q E s := by
  refine enterS (prog := pg) (binds := [("self", .ref x), ("what", v)]) hg c.X c.T.nolimit (by k_is) (by k_is) r.room (by rfl) (by intro y hy; simp only [List.mem_cons, List.not_mem_nil, or_false] at hy; rcases hy with rfl | rfl <;> rfl) (fun L h₁ tk hL hs hn => ?_) (by decide) (by rfl) (by rfl) (by rfl)
  have c₁ := c.up (stays_trans hg hs)
  have X := c₁.X
  obtain ⟨nm, q, N, bs, sn, sub, ab, col, dd, k0, k1, k2, k3, k5, h53⟩ := at53 w
  obtain ⟨cd, hcd, hmro⟩ := mro53 w
  have hC := X _ _ h53
  have hx1 := hs _ _ hx
  have hxC : x ≠ 53 := fun e => by rw [e] at hx1; rw [hx1] at hC; cases hC
  have hLx : L ≠ x := fun e => by rw [e, hx] at hL; cases hL
  refine ks_wpAt_execs_cons (ks_wpAt_Expr_any (ks_wpAt_MethodCall (ks_wpAt_super_base (f := 30) (cc := 29) rfl rfl (by decide) rfl (X _ _ (by k_is)) rfl rfl rfl (X _ _ (by k_is)) rfl rfl (by rfl) (by rfl) ?_) rfl) (by rfl) (by rfl))
  refine ks_loadName_global rfl rfl (loadGlobal_builtin c₁.T.g (mg_none_of X c₁.T.g (ns_super w)) c₁.T.b ((c₁.T.builtins _ (by decide)).trans bb_super) ⟨rfl, ?_⟩)
  refine wpAny_loadName_free rfl rfl rfl ⟨_, X _ _ (by k_is), rfl⟩ ?_
  refine wpAny_loadName_local rfl rfl hn rfl ?_
  obtain ⟨cd40, hcd40⟩ := cls40 w
  obtain ⟨o40, h40, h40d⟩ : ∃ o40, h₁.get? 40 = some o40 ∧ ∃ cd, o40.data = .cls cd := ⟨_, X _ _ (by k_is), _, rfl⟩
  obtain ⟨cd4, h40d⟩ := h40d
  refine ks_wpAny_isType_cls h40 h40d ⟨rfl, ?_⟩
  refine ks_wpAny_call_super h40 h40d hx1 rfl (fun c e => by cases e) (looks_mroIn X (sub53_40 w)) fun h2 e2 k2 => ?_
  have hx2 := k2 _ _ hx1
  have X2 := X.keeps k2
  have hm2 : ∀ {h : Heap}, (hd.heap_39 w.params).In h → Looks (model pg w) h (mroOf (.ref 53)) [.ref 53, .ref 40, .type "Exception", .type "BaseException", .type "object"] := fun X => by
    have := (looks_clsIn (M := model pg w) X hcd).andThen (f := fun cd => pure cd.mro) .now
    rwa [hmro] at this
  refine sg_method (so := h₁.objs.size) e2 (looks_opaque X2 (opq53 w)) (hm2 X2) rfl X2 (along53 _) hx2 rfl (looks_mroIn X2 (sub53_E w)) hxC ?_
  have hmw : (h2.push (mwObj x)).get? h2.objs.size = some (mwObj x) := Heap.get?_push_size _ rfl
  have k3 : h2.StaysIn (h2.push (mwObj x)) := stays_push _ _
  have k13 : h₁.StaysIn (h2.push (mwObj x)) := stays_trans k2 k3
  generalize h2.push (mwObj x) = h3 at hmw k3 k13
  have hmx : h2.objs.size ≠ x := fun e => by have := Heap.lt_size hx2; rw [← e] at this; exact Nat.lt_irrefl _ this
  refine callWith_mw (x := x) (args_cons (Ev.loc (prog := pg) (w := w) (hn.keeps k13) rfl rfl rfl rfl _ _ _ (stays_refl _) fun v1 h4 tk4 k4 hv => args_nil ⟨k4 _ _ hmw, ?_⟩) rfl)
  cases hv
  have c4 := c₁.up (stays_trans k13 k4)
  have xc : XC h4 53 N "Exception" "Exception.__new__" _ := ⟨c4.X _ _ h53, _, _, _, _, _, _, _, _, _, _, _, _, _, _, _, rfl, by decide, by decide, by decide, by decide⟩
  refine mw_call xc (k4 _ _ hmw) (k4 _ _ (k13 _ _ hx1)) fun h5 e5 _ k5 => ?_
  have k15 : ∀ b o, b ≠ x → h₁.get? b = some o → h5.get? b = some o := fun b o hb e => k5 b o hb (k4 _ _ (k13 _ _ e))
  have g5 : g.StaysIn h5 := fun b o e => k15 b o (fun q => by rw [q, hgx] at e; cases e) (hs _ _ (hg _ _ e))
  have c5 := c.up g5
  have hn5 : h5.Ns L _ := hn.at' fun o e => k15 _ o hLx e
  refine _root_.PySem.wpAt_of_wpAny (wpAny_execs_cons (plainObj_wpAny_Assign_Attribute ?_ (by rfl)))
  refine Ev.loc (prog := pg) (w := w) hn5 rfl rfl rfl rfl _ _ _ (stays_refl _) fun v6 h6 tk6 k6 hv => ?_
  refine Ev.loc (prog := pg) (w := w) (hn5.keeps k6) rfl rfl rfl rfl _ _ _ (stays_refl _) fun v7 h7 tk7 k7 hv2 => ?_
  cases hv2
  have c7 := c5.up (stays_trans k6 k7)
  have k57 := stays_trans k6 k7
  refine xs_attr (c7.X _ _ h53) (k57 _ _ e5) rfl rfl (fun c e => by cases e) (hm2 c7.X) ?_ (looks_findIn c7.X (find53_what w)) (looks_findIn c7.X (find53_sa w)) (looks_mroIn c7.X (sub53_o w)) fun h8 tk8 e8 k8 => ?_
  · rw [refuseLoop_ref, refuseLoop_ref]; exact PySem.F.store_Exception.passes _
  refine wpAny_execs_nil ?_
  exact k h8 tk8 _ _ (fun b o hb e => k8 b o hb (k57 _ _ (k15 b o hb (hs _ _ e)))) e8

end Mine
end
section -- R4
open PySem PySem.W PyProof.Rows PySem.Calls
set_option maxRecDepth 100000
set_option maxHeartbeats 400000
set_option linter.unusedVariables false
namespace Mine
theorem fillR4 : (PySem.Challenge.rw_qd0006_01, Mine.hd.heap_39) = (PySem.Challenge.rw_qd0006_01, Mine.hd.heap_39) := by k_fill; rfl

section
variable {prog : Program} {w : World} {A : Around} {env : Env} {h₀ : Heap}
/-- a text, an int, a text, joined -/
theorem Ev.fstr {a b : Str} {e : Expr} {i : Int} {k k' : Nat} {p p' p2 pos : Pos} (hd : i.natAbs.log2 < 1920) (ha : a.length ≤ 1000) (hb : b.length ≤ 1000) (hi : (Str.ofString (toString i)).length ≤ 1000) (h : Ev prog w A env h₀ e (IsI i)) :
    Ev prog w A env h₀ (.JoinedStr [.Constant (.str a) k p, .FormattedValue e (-1) none p2, .Constant (.str b) k' p'] pos) (fun _ v => ∃ x t, v = .str x t) := fun s Q E hs kk => by
  refine JoinedStr_many ?_
  have he : Str.empty.length = 0 := by decide
  refine joinParts_cons (Ev.strS (x := a) (prog := prog) (w := w) (h₀ := s.heap) _ _ _ (stays_refl _) fun v h1 tk1 k1 hv => ?_)
  obtain ⟨t1, rfl⟩ := hv
  refine ⟨by rw [PySem.strLen_append, sizeLine_eq]; omega, ?_⟩
  refine joinParts_cons (FormattedValue_plain (h _ _ _ (stays_trans hs k1) fun v h2 tk2 k2 hv => ?_))
  obtain ⟨t2, rfl⟩ := hv
  refine formatField_int_small hd ⟨by rw [PySem.strLen_append, PySem.strLen_append, sizeLine_eq]; omega, ?_⟩
  refine joinParts_cons (Ev.strS (x := b) (prog := prog) (w := w) (h₀ := h2) _ _ _ (stays_refl _) fun v h3 tk3 k3 hv => ?_)
  obtain ⟨t3, rfl⟩ := hv
  refine ⟨by rw [PySem.strLen_append, PySem.strLen_append, PySem.strLen_append, sizeLine_eq]; omega, ?_⟩
  refine joinParts_nil ?_ (by rw [PySem.strLen_append, PySem.strLen_append, PySem.strLen_append, sizeLine_eq]; omega)
  exact kk _ h3 _ (stays_trans k1 (stays_trans k2 k3)) ⟨_, _, rfl⟩
end
end Mine
end
section -- R5
open PySem PySem.W PyProof.Rows PySem.Calls
set_option maxRecDepth 100000
set_option maxHeartbeats 400000
set_option linter.unusedVariables false
namespace Mine
theorem fillR5 : (PySem.Challenge.rw_qd0006_01, Mine.hd.heap_39) = (PySem.Challenge.rw_qd0006_01, Mine.hd.heap_39) := by k_fill; rfl

theorem tc_weight (C : Addr) (rest : List Value) : (Code.builtin "type.__call__" ⟨.ref C :: rest, []⟩).weight = 1 := by kernel_rfl
theorem tc_units (C : Addr) (rest : List Value) : (Code.builtin "type.__call__" ⟨.ref C :: rest, []⟩).cUnits = 1 := by kernel_rfl
theorem Rm.made {A : Around} {n : Nat} (r : Rm A (n + 1)) (C : Addr) (rest : List Value) : Rm (A.under (.builtin "type.__call__" ⟨.ref C :: rest, []⟩)) n :=
  ⟨r.hh, by have := r.hd; show A.depth + (Code.builtin "type.__call__" ⟨.ref C :: rest, []⟩).weight + n < 900; rw [tc_weight]; omega, by have := r.hu; show A.units + (Code.builtin "type.__call__" ⟨.ref C :: rest, []⟩).cUnits + 20 * n < 9000; rw [tc_units]; omega⟩

/-- LimitFault(v): made, nothing else touched -/
theorem fault_spec {w : World} {A : Around} {mean : ExcName → Option Value} {mg mb : Str → Option Value} {s : Shared} {v : Value} {Q : Value → Shared → Prop} {E : Value → Shared → Prop}
    (c : Cx w mean mg mb s.heap) (r : Rm A 2)
    (k : ∀ e h' tk t1 dx, s.heap.get? e = none → s.heap.StaysIn h' → h'.get? e = some { rawExc 53 t1 with dict := some dx } → Q (.ref e) { s with heap := h', toks := tk }) :
    wpAny (model pg w) A (call (.ref 53) [v]) Q E s := by
  obtain ⟨nm, q, N, bs, sn, sub, ab, col, dd, k0, k1, k2, k3, k5, h53⟩ := at53 w
  have xc : XC s.heap 53 N "Exception" "Exception.__new__" _ := ⟨c.X _ _ h53, _, _, _, _, _, _, _, _, _, _, _, _, _, _, _, rfl, by decide, by decide, by decide, by decide⟩
  obtain ⟨hh, g, d, t, os⟩ := s
  refine xc_call PySem.F.excBase_Exception xc (looks_findIn c.X (find53_init w)) (c.X _ _ (by k_is)) rfl (by rw [sizeLine_eq]; show 1 ≤ 16777216; decide) fun h' e he hh' => ?_
  have up : hh.StaysIn h' := fun b o e => by rw [hh']; exact Heap.get?_push_of_some _ (Heap.get?_push_of_some _ e)
  have hx : h'.get? e = some (rawExc 53 hh.objs.size) := by
    subst he hh'
    have := Heap.get?_push_size (hh.push { cls := .type "tuple", data := .seq [v].toArray }) (o := rawExc 53 hh.objs.size) rfl
    rwa [Heap.size_push] at this
  have hxn : hh.get? e = none := by subst he; exact Heap.get?_none_of_le (Nat.le_succ _)
  refine init_spec (g := hh) (s := ⟨h', g, d, t, os⟩) c up hxn (r.made 53 [v]) hx fun h2 tk t1 dx k2 e2 => ⟨rfl, ?_⟩
  exact k e h2 tk t1 dx hxn (fun b o eb => k2 b o (fun q => by rw [q, hxn] at eb; cases eb) (up _ _ eb)) e2

section
variable {M : Model} {A : Around} {E : Value → Shared → Prop} {env : Env}
theorem raise_own {s : Shared} {C : Addr} {x : Sem Value} {Q : Flow → Shared → Prop} (hh : A.handled = none)
    (h : wpAny M A x (fun v s₁ => ∃ e t dx N B newId o, v = .ref e ∧ XC s₁.heap C N B newId o ∧ s₁.heap.get? e = some { rawExc C t with dict := dx } ∧ E (.ref e) s₁) E s) :
    wpAny M A (raiseStmt env (some x) none) Q E s := by
  unfold raiseStmt
  refine wpAny_bind (wpAny_mono h (fun v s₁ h₁ => ?_) fun _ _ x => x)
  obtain ⟨e, t, dx, N, B, newId, o, rfl, ⟨hC, nm, q, bs, bm, hdct, sn, sub, ab, col, dd, k0, k1, k2, k3, k5, rfl, -, hBE, -, -⟩, he, hE⟩ := h₁
  have hcB : (Value.ref C :: bm).contains (.type "BaseException") = true := by rw [List.contains_cons, hBE, Bool.or_true]
  obtain ⟨hp, g, d, tk, os⟩ := s₁
  repeat (first | with_reducible refine wpAny_loadPart_at he ?_ | with_reducible refine wpAny_loadPart_at hC ?_ | (with_reducible refine wpAny_isSubtype_exc hC ?_; rw [hcB]) | wp_step)
  exact wpAny_raiseNew_none hh hE
end

/-- entering a def whose body may raise: what leaves is noted -/
theorem enterR {prog : Program} {w : World} {A : Around} {s : Shared} {K : Frag} {g : Heap}
    {name qual : Str} {params : Arguments} {body : List Stmt} {scope : Scope} {dV kV doc pm cdv ct oc : Value} {an od : Option Addr} {osl : Array (Option Value)} {f : Addr} {args : List Value} {binds : List (Str × Value)} {Q : Value → Shared → Prop} {E : Value → Shared → Prop}
    (hg : g.StaysIn s.heap) (X : K.In g) (hlim : g.NoLimit)
    (ho : K.lookup f = some ⟨oc, od, .func (fnOf name qual params body scope dV kV doc pm an cdv ct), osl⟩) (hcd : codeIn K cdv qual = true) (hroom : A.depth < recursionLimit)
    (hbind : bindArgs (fnOf name qual params body scope dV kV doc pm an cdv ct) ⟨args, []⟩ = pure binds)
    (hkind : (binds.all fun y => scope.names.lookup y.1 == some .local || scope.names.lookup y.1 == some .cell) = true)
    (h : ∀ L h₁ tk, s.heap.get? L = none → s.heap.StaysIn h₁ → h₁.Ns L (bindL (envOfC qual scope L f cdv).kindOf binds fun _ => none) →
      (∀ n c, (cellsFrom (L + 1) scope.names []).lookup n = some c → h₁.IsCell c (bindC (envOfC qual scope L f cdv).kindOf binds (fun _ => none) n)) → L = s.heap.objs.size →
      wpAny (model prog w) (A.deeper (envOfC qual scope L f cdv)) (execs body (envOfC qual scope L f cdv))
        (fun fl s' => Q (match fl with | .ret v => v | _ => .none) s')
        (fun e s' => wpAny (model prog w) (A.deeper (envOfC qual scope L f cdv)) (leaving (envOfC qual scope L f cdv) e) (fun _ s'' => E e s'') (fun e' s'' => E e' s'') s')
        { s with heap := h₁, toks := tk })
    (hco : scope.isCoroutine = false) (hgen : scope.isGenerator = false) (hk : scope.kind = .function) : wpAny (model prog w) A (call (.ref f) args) Q E s := by
  refine wpAny_call ?_
  refine codeAny_call_cells (fd := fnOf name qual params body scope dV kV doc pm an cdv ct) (body := body) (binds := binds) hroom (hg _ _ (X _ _ ho)) rfl (hlim.keeps hg) (codeRec_of (X.keeps hg) hcd) rfl hbind rfl (kindsX hkind _) (fun s₁ x => ?_) hco hgen hk
  obtain ⟨h₁, tk, rfl, hk₁⟩ := x.done
  exact wpAny_mono (h s.heap.objs.size h₁ tk (Heap.get?_none_of_le (Nat.le_refl _)) hk₁ x.toInCall.ns x.cell rfl) (fun fl s' hl => hl) (fun _ _ x => x)
end Mine
end
section -- R6
open PySem PySem.W PyProof.Rows PySem.Calls
set_option maxRecDepth 100000
set_option maxHeartbeats 400000
set_option linter.unusedVariables false
namespace Mine
theorem fillR6 : (PySem.Challenge.rw_qd0006_01, Mine.hd.heap_39) = (PySem.Challenge.rw_qd0006_01, Mine.hd.heap_39) := by k_fill; rfl

theorem keep53 {w : World} : keepIn (hd.heap_39 w.params) (.ref 53) = true := by k_is
theorem values_raises {w : World} {A : Around} {mean : ExcName → Option Value} {mg mb : Str → Option Value} {s : Shared} {dv : Value} {d : Dm} {pl pf : Int × Int} {base : Heap} {outer : List Env} {Q : Value → Shared → Prop} {E : Value → Shared → Prop}
    (c : Cx w mean mg mb s.heap) (r : Rm A 4) (hd : IsT IsP d s.heap dv) (hl : d.length ≤ 1000) (hne : d ≠ []) (hpl : d.getLast? = some pl) (hpf : d[0]? = some pf) (hspan : 1000000 ≤ pl.2 - pf.1) (hsz : 1000000 < sizeD d)
    (hfr : A.frames = some outer) (hfun : s.heap.FunFrames base outer) (hb : base.StaysIn s.heap)
    (k : ∀ e h' tk t1, Heap.FlyingW base outer e (.ref 53) (.ref t1) h' → s.heap.UpToSlots h' → E (.ref e) { s with heap := h', toks := tk }) :
    wpAny (model pg w) A (call (.ref 88) [dv]) Q E s := by
  refine enterR (prog := pg) (binds := [("d", dv)]) (stays_refl _) c.X c.T.nolimit (by k_is) (by k_is) r.room (by rfl) (by rfl) (fun L h₁ tk hL hs hn _ _ => ?_) (by rfl) (by rfl) (by rfl)
  have rd := fun env => r.deep (n := 3) env
  have hu : ∀ env, (A.deeper env).units + 2 < cLine := fun env => by have := (rd env).hu; show _ < 9900; omega
  have c₁ := c.up hs
  have hd₁ := stab_t tstab_p _ _ _ _ hs hd
  have nd := nmT (prog := pg) (w := w) (x := "d") tstab_p hn rfl hd₁ rfl
  have il : ((0 : Int) ≤ -1 ∧ d[(-1 : Int).toNat]? = some pl) ∨ ((-1 : Int) < 0 ∧ -(d.length : Int) ≤ -1 ∧ d[((-1 : Int) + d.length).toNat]? = some pl) := by
    have hp : 0 < d.length := List.length_pos_iff.mpr hne
    refine .inr ⟨by decide, by omega, ?_⟩
    rw [List.getLast?_eq_getElem?] at hpl
    rw [show ((-1 : Int) + (d.length : Nat)).toNat = d.length - 1 by omega]; exact hpl
  have i0 : ((0 : Int) ≤ 0 ∧ d[(0 : Int).toNat]? = some pf) ∨ ((0 : Int) < 0 ∧ -(d.length : Int) ≤ 0 ∧ d[((0 : Int) + d.length).toNat]? = some pf) := .inl ⟨Int.le_refl _, hpf⟩
  have most : ∀ {A : Around} {env : Env} {pos : Pos} {g : Heap}, h₁.StaysIn g → env.globals = mainGlobals → env.scope.kind = .function → env.kindOf "MOST_LISTED" = some .globalImplicit → Ev pg w A env g (.Name "MOST_LISTED" pos) (IsI 1000000) := fun hg e1 e2 e3 =>
    ((c₁.up hg).glob (v := .int 1000000 245) (by k_is) e1 e2 e3 rfl).mono fun _ _ e => ⟨245, e⟩
  refine wpAny_execs_cons (exec_if (b := (!decide (d = [])) && (decide ((1000000 : Int) ≤ pl.2 - pf.1) && decide ((1000000 : Int) < sizeD d))) (.and3 (.neT (hu _) (nd.on (stays_refl _) ⟨rfl, rfl, rfl⟩) (.tuple .nil (by show 0 ≤ 1000; decide) (fun g vs e => by rw [e]; rfl) (fun g g' vs a hg e ht => ⟨a, vs, rfl, ht, by rw [e]; trivial⟩))) (fun hp => ?_) (fun hp hq => ?_)) fun h2 tk2 hk2 => ⟨fun _ => ?_, fun hb => absurd hb ?_⟩)
  · exact .ge (.sub (.snd (.itemT tstab_p (by omega) (nd.on (stays_refl _) ⟨rfl, rfl, rfl⟩) (.neg .lit) il)) (.fst (.itemT tstab_p (by omega) (nd.on (stays_refl _) ⟨rfl, rfl, rfl⟩) .lit i0))) (most (stays_refl _) rfl rfl rfl)
  · exact .gt (.callF (f := 74) (c₁.fn (by k_is)) rfl (c₁.glob (by k_is) rfl rfl rfl rfl) (.one (nd.on (stays_refl _) ⟨rfl, rfl, rfl⟩) (stab_t tstab_p d)) (fun g vs hg hv => by
      obtain ⟨_, rfl, e1⟩ := hv
      exact cl_size (c₁.up hg) ((rd _).less (by decide)) hl e1)) (most (stays_refl _) rfl rfl rfl)
  · have c2 := c₁.up hk2
    refine wpAny_execs_cons ?_
    rw [arm_exec_Raise]
    refine wpAny_bind (wpAny_standAt ?_)
    simp only [evalOpt, Option.map]
    refine raise_own (C := 53) (rd _).hh (wpAny_bind ?_)
    refine wpAny_Call_ofName ?_
    refine (c2.glob (v := .ref 53) (by k_is) rfl rfl rfl rfl) _ _ _ (stays_refl _) fun fv h3 tk3 hk3 hfv => ?_
    cases hfv
    have c3 := c2.up hk3
    refine callWith_K (K := Mine.hd.heap_39 w.params) c3.X keep53 (args_cons (Ev.fstr (prog := pg) (w := w) (i := 1000000) (by decide) (by decide) (by decide) (by decide) (most (stays_trans hk2 hk3) rfl rfl rfl) _ _ _ (stays_refl _) fun v h4 tk4 hk4 hv => args_nil ⟨(c3.up hk4).X, ?_⟩) rfl) rfl rfl
    have c4 := c3.up hk4
    refine fault_spec c4 ((rd _).less (by decide)) fun e h5 tk5 t1 dx he5 hk5 hx5 => ?_
    obtain ⟨nm, q, N, bs, sn, sub, ab, col, dd, k0, k1, k2, k3, k5, h53⟩ := at53 w
    refine wpAny_bind (wpAny_standAt (wpAny_pure ⟨e, t1, _, N, "Exception", "Exception.__new__", _, rfl, ⟨(c4.up hk5).X _ _ h53, _, _, _, _, _, _, _, _, _, _, _, _, _, _, _, rfl, by decide, by decide, by decide, by decide⟩, hx5, ?_⟩))
    have st : h₁.StaysIn h5 := stays_trans hk2 (stays_trans hk3 (stays_trans hk4 hk5))
    have st0 := stays_trans hs st
    have up0 : s.heap.UpToSlots h5 := Heap.UpToSlots.of_keeps st0
    have bL : base.get? L = none := by
      cases q : base.get? L with
      | none => rfl
      | some o => have := hb _ _ q; rw [hL] at this; cases this
    have be : base.get? e = none := by
      cases q : base.get? e with
      | none => rfl
      | some o => have := stays_trans hk2 (stays_trans hk3 hk4) _ _ (hs _ _ (hb _ _ q)); rw [he5] at this; cases this
    obtain ⟨oL, es, ep, hoL, hdL, _⟩ := hn
    refine wpAny_leaving_firstW (base := base) (outer := outer) (L := L) (a0 := .ref t1) (by show A.frames.map _ = _; rw [hfr]; rfl) ⟨(fun q => by cases q), ⟨L, oL, rfl, bL, st _ _ hoL, fun vs q => by rw [hdL] at q; cases q⟩, hfun.of_keeps fun b o eb _ => ⟨o, st0 _ _ eb, rfl⟩⟩ rfl hx5 (fun b o eb => st0 _ _ (hb _ _ eb)) be rfl rfl rfl fun h' hL' => ?_
    obtain ⟨x1, x2, x3, x4⟩ := hL'
    exact k e h' _ t1 ⟨x1, be, x2.2.2, x3⟩ (up0.trans x4)
  · simp [hne, hspan, hsz]
end Mine
end
section -- R7
open PySem PySem.W PyProof.Rows PySem.Calls
set_option maxRecDepth 100000
set_option maxHeartbeats 400000
set_option linter.unusedVariables false
namespace Mine
theorem fillR7 : (PySem.Challenge.rw_qd0006_01, Mine.hd.heap_39) = (PySem.Challenge.rw_qd0006_01, Mine.hd.heap_39) := by k_fill; rfl

theorem caught_own {w : World} {A : Around} {mean : ExcName → Option Value} {mg mb : Str → Option Value} {s : Shared} {env : Env} {L e t1 : Addr} {base : Heap} {outer : List Env} {b₀ : Stmt} {suite : List Stmt} {pos np : Pos} {rest : List ExceptHandler} {Q : Flow → Shared → Prop}
    (c : Cx w mean mg mb base) (hfr : A.frames = some (env :: outer)) (hf : env.frame = some L) (hfl : Heap.FlyingW base (env :: outer) e (.ref 53) (.ref t1) s.heap)
    (e1 : env.globals = mainGlobals) (e2 : env.scope.kind = .function) (e3 : env.kindOf "LimitFault" = some .globalImplicit)
    (k : ∀ h', base.StaysIn h' → s.heap.UpToSlots h' → wpAny (model pg w) (A.mark (some (.ref e))) (execs (b₀ :: suite) env) Q (fun _ _ => False) { s with heap := h' }) :
    wpAny (model pg w) A (noteFrame (.ref e) env) (fun _ s₂ => wpAny (model pg w) A (setFlight (.ref e) none) (fun _ s₃ =>
      wpAny (model pg w) A (handleBy (.ref e) env (.ExceptHandler (some (.Name "LimitFault" np)) none (b₀ :: suite) pos :: rest)) Q (fun _ _ => False) s₃) (fun _ _ => False) s₂) (fun _ _ => False) s := by
  refine wpAny_looks_onW hfr hf hfl fun h₄ hheld₄ hsm₄ => ?_
  refine wpAny_landsW hheld₄ fun h₅ hheld hsm₅' => ?_
  have hsm₅ := hsm₄.trans hsm₅'
  have c₅ := c.up hheld.1
  obtain ⟨ob, hob, hobc⟩ := hheld.there
  obtain ⟨nm, q, N, bs, sn, sub, ab, col, dd, k0, k1, k2, k3, k5, h53⟩ := at53 w
  have c₅' : Cx w mean mg mb ({ s with heap := h₅ } : Shared).heap := c₅
  refine wpAny_handleBy_cons (codeAny_handlers_test (Name_function_global e2 e3 (loadGlobal_global (v := .ref 53) (e1 ▸ c₅.T.g) (mg_of c₅.X c₅.T.g (by k_is)) ?_))) (by intro q; cases q)
  refine wpAny_excMatches_sub_self (c₅.X _ _ h53) hob hobc (by decide) (codeAny_handlers_suite ?_)
  refine lands_againW hheld fun h₆ hfl₆ hsm₆ => ?_
  exact wpAny_passesOwnAt PassesOwnAt.never (k h₆ hfl₆.1 (hsm₅.trans hsm₆))
end Mine
end
section -- R8
open PySem PySem.W PyProof.Rows PySem.Calls
set_option maxRecDepth 100000
set_option maxHeartbeats 400000
set_option linter.unusedVariables false
namespace Mine
section
variable {prog : Program} {w : World} {A : Around} {env : Env} {h₀ : Heap}
theorem EvT.or2 {a b : Expr} {p q : Bool} {pos : Pos} (h1 : EvT prog w A env h₀ a p) (h2 : p = false → EvT prog w A env h₀ b q) : EvT prog w A env h₀ (.BoolOp .Or [a, b] pos) (p || q) := fun s Q E hs k => by
  refine isTrue_or (h1 s _ E hs fun h' tk hk => ?_)
  cases p with
  | true => exact k h' tk hk
  | false =>
    refine isTrue_or (h2 rfl _ _ E (stays_trans hs hk) fun h2' tk2 hk2 => ?_)
    cases q with
    | true => exact k h2' tk2 (stays_trans hk hk2)
    | false => exact isTrue_or_nil (k h2' tk2 (stays_trans hk hk2))
theorem EvT.leLe {a b c : Int} {l m r : Expr} {pos : Pos} (h1 : Ev prog w A env h₀ l (IsI a)) (h2 : Ev prog w A env h₀ m (IsI b)) (h3 : Ev prog w A env h₀ r (IsI c)) (hm : lastMarks [.LtE, .LtE] [m, r] = false := by with_unfolding_all rfl) :
    EvT prog w A env h₀ (.Compare l [.LtE, .LtE] [m, r] pos) (decide (a ≤ b) && decide (b ≤ c)) := fun s Q E hs k => by
  refine isTrue_chain (h1 s _ E hs fun va ha tk1 hk1 r1 => ?_) hm
  refine test_link (h2 _ _ E (stays_trans hs hk1) fun vb hb tk2 hk2 r2 => ?_)
  obtain ⟨t, rfl⟩ := r1
  obtain ⟨u, rfl⟩ := r2
  refine le_int (wpAny_truthy_bool ?_)
  cases hab : decide (a ≤ b) with
  | false => rw [hab] at k; exact k hb tk2 (stays_trans hk1 hk2)
  | true =>
    rw [hab] at k
    refine test_last (h3 _ _ E (stays_trans hs (stays_trans hk1 hk2)) fun vc hc tk3 hk3 r3 => ?_)
    obtain ⟨v, rfl⟩ := r3
    exact le_int (wpAny_truthy_bool (k hc tk3 (stays_trans hk1 (stays_trans hk2 hk3))))

theorem pick_back (n : Nat) : sliceRange ((n : Int) - 1) (-1) (-1) = (List.range n).map fun k => n - 1 - k := picked_rev n
theorem slicePick_rev (items : Array Value) : slicePick items none none (some (-1)) = items.toList.reverse.toArray := by
  have e : sliceBounds none none (some (-1)) items.size = ((items.size : Int) - 1, -1, -1) := by simp [sliceBounds]
  unfold slicePick
  rw [e]
  dsimp only
  rw [pick_back]
  congr 1
  apply List.ext_getElem?
  intro i
  obtain ⟨l⟩ := items
  simp only [List.size_toArray]
  rw [List.filterMap_map]
  have h : ∀ k, k ≤ l.length → (List.range k).filterMap ((fun x => l[x]?) ∘ fun j => l.length - 1 - j) = (l.reverse).take k := by
    intro k hk
    induction k with
    | zero => simp
    | succ k ih =>
      rw [List.range_succ, List.filterMap_append, ih (by omega), List.take_add_one]
      congr 1
      have hlt : l.length - 1 - k < l.length := by omega
      simp [List.getElem?_reverse (show k < l.length by omega), List.getElem?_eq_getElem hlt]
  have := h l.length (Nat.le_refl _)
  rw [← List.length_reverse (as := l), List.take_length] at this
  simp only [List.length_reverse] at this
  show (List.filterMap ((fun x => (l.toArray)[x]?) ∘ fun k => l.length - 1 - k) (List.range l.length))[i]? = _
  simp only [List.getElem?_toArray]
  rw [this]

theorem Ev.revL {α : Type} {RR : α → Heap → Value → Prop} {xs : List α} {e st : Expr} {p pos : Pos} (sr : TStab RR) (hl : xs.length ≤ 1000000) (h1 : Ev prog w A env h₀ e (IsL RR xs)) (h2 : Ev prog w A env h₀ st (IsI (-1)))
    (ht : ∀ o r, letTemporaryGo e o r = pure () := by intro _ _; rfl) : Ev prog w A env h₀ (.Subscript e (.Slice none none (some st) p) pos) (IsL RR xs.reverse) := fun s Q E hs k => by
  refine wpAny_Subscript_Slice_step (T := "list") list_getitem_lookup (h1 s _ E hs fun o ha tk1 hk1 r1 => wpAny_Slice ?_) ht
  rw [evalPart_none, evalPart_some]
  refine wpAny_pure (wpAny_pure (h2 _ _ E (stays_trans hs hk1) fun vs hb tk2 hk2 r2 => ?_))
  obtain ⟨t, rfl⟩ := r2
  obtain ⟨a, us, rfl, hls, hr⟩ := stab_l sr _ _ _ _ hk2 r1
  have hls2 : (hb.push { cls := .type "slice", data := .fields #[Value.none, Value.none, .int (-1) t] }).IsList a us.toArray := by obtain ⟨o, ho, r⟩ := hls; exact ⟨o, Heap.get?_push_of_some _ ho, r⟩
  refine ⟨hls2.typeIs, wpAny_getItem_list_slice hls2 (Heap.IsSliceOf.new ..) .none .none (.int _ _) (by simp) ?_ (by rw [List.size_toArray, hr.len, sizeLine_eq]; omega)⟩
  rw [slicePick_rev]
  have k2 : hb.StaysIn ((hb.push { cls := .type "slice", data := .fields #[Value.none, Value.none, .int (-1) t] }).push { cls := .type "list", data := .seq us.toArray.toList.reverse.toArray }) := stays_trans (stays_push _ _) (stays_push _ _)
  refine k _ _ tk2 (stays_trans hk1 (stays_trans hk2 k2)) ⟨_, us.reverse, rfl, ⟨_, Heap.get?_push_size _ rfl, rfl, 0, rfl⟩, (hr.tl sr (.of k2)).rev⟩
end
end Mine
end
section -- R9
open PySem PySem.W PyProof.Rows PySem.Calls
set_option maxRecDepth 100000
set_option maxHeartbeats 400000
set_option linter.unusedVariables false
namespace Mine
theorem fillR9 : (PySem.Challenge.rw_qd0006_01, Mine.hd.heap_39) = (PySem.Challenge.rw_qd0006_01, Mine.hd.heap_39) := by k_fill; rfl

theorem listed_spec {w : World} {A : Around} {mean : ExcName → Option Value} {mg mb : Str → Option Value} {s : Shared} {dv sv : Value} {D : Dm} {base : Heap} {outer : List Env} {Q : Value → Shared → Prop} {E : Value → Shared → Prop}
    (c : Cx w mean mg mb base) (hbs : base.StaysIn s.heap) (r : Rm A 6) (hd : IsT IsP D s.heap dv) (hsv : IsL IsP D s.heap sv) (hD : Ca D) (hin : In D) (hl : D.length ≤ 1000)
    (hfr : A.frames = some outer) (hfun : s.heap.FunFrames base outer)
    (k : ∀ h' tk, base.StaysIn h' → s.heap.UpToSlots h' → Q (.bool true) { s with heap := h', toks := tk }) :
    wpAny (model pg w) A (call (.ref 198) [dv, sv]) Q E s := by
  refine enterC (prog := pg) (binds := [("d", dv), ("some", sv)]) hbs c.X c.T.nolimit (by k_is) (by k_is) r.room (by rfl) (by rfl) (fun L h₁ tk hL hs hn _ _ => ?_) (by rfl) (by rfl) (by rfl)
  have rd := fun env => r.deep (n := 5) env
  have hu : ∀ env, (A.deeper env).units + 2 < cLine := fun env => by have := (rd env).hu; show _ < 9900; omega
  have cs := c.up hbs
  have c₁ := cs.up hs
  have hd₁ := stab_t tstab_p _ _ _ _ hs hd
  have hs₁ := stab_l tstab_p _ _ _ _ hs hsv
  have pure' : ∀ h' tk, s.heap.StaysIn h' → Q (.bool true) { s with heap := h', toks := tk } := fun h' tk k1 => k h' tk (stays_trans hbs k1) (Heap.UpToSlots.of_keeps k1)
  obtain ⟨m1, hn, md1, ms1⟩ : ∃ m1, h₁.Ns L m1 ∧ m1 "d" = some dv ∧ m1 "some" = some sv := ⟨_, hn, rfl, rfl⟩
  -- many = sum([..])
  refine wpAny_execs_cons (exec_asn (R := IsI (sizeD D)) (.sum (rd _).hh (c₁.blt (ns_sum w) bb_sum (by decide) rfl rfl rfl rfl rfl) (ev_compP0 (cl := []) (fun p => p.2 - p.1 + 1) (rd _).hh ((Ev.loc hn ms1 rfl rfl rfl).srcL (rd _).hh tstab_p hs₁) tstab_i (by omega)
    (fun C z g hz hg lo hi => ((hi _).sub (lo _)).add Ev.lit) (fun _ => rfl) (fun _ => rfl) (by decide) rfl rfl (by rfl) (by decide) (by rfl) (by decide) (fun _ => rfl)) rfl rfl) hn rfl rfl (by rfl) fun v h2 h3 tk3 k1 k2 k3 k4 => ?_)
  obtain ⟨tm, rfl⟩ := k2
  have kw3 : ∀ b o, b ≠ L → h₁.get? b = some o → h3.get? b = some o := fun b o hb e => k3.extBut _ _ hb (k1 _ _ e)
  have st3 : s.heap.StaysIn h3 := fun b o e => kw3 b o (fun q => by rw [q, hL] at e; cases e) (hs _ _ e)
  have c3 := cs.up st3
  have hd3 := stab_t tstab_p _ _ _ _ st3 hd
  have hs3 := stab_l tstab_p _ _ _ _ st3 hsv
  generalize hm3 : (fun y => if y = Str.ofString "many" then some (Value.int (sizeD D) tm) else m1 y) = m3 at k4
  have q3 : ∀ y : Str, y ≠ Str.ofString "many" → m3 y = m1 y := fun y hy => by rw [← hm3]; simp only [if_neg hy]
  have nd := nmT (prog := pg) (w := w) (x := "d") tstab_p k4 ((q3 _ (by decide)).trans md1) hd3 rfl
  have nsm := nmL (prog := pg) (w := w) (x := "some") tstab_p k4 ((q3 _ (by decide)).trans ms1) hs3 rfl
  have mmany : m3 "many" = some (.int (sizeD D) tm) := by rw [← hm3]; simp
  have nmany := nmI (prog := pg) (w := w) (x := "many") k4 mmany rfl
  have tup : ∀ {A : Around} {env : Env} {g : Heap} {p1 p2 p3 : Pos}, h3.StaysIn g → Lc env L "some" → env.globals = mainGlobals → env.builtins = builtinsNs → env.kindOf "tuple" = some .globalImplicit →
      starEach [.Name "some" p2] env = [(false, eval (.Name "some" p2) env)] → eval (.Call (.Name "tuple" p1) [.Name "some" p2] [] p3) env = (do callWith p3 (← eval (.Name "tuple" p1) env) [] (backTo p3 (starEach [.Name "some" p2] env)) (backToKw p3 (keywordEach [] env))) →
      Ev pg w A env g (.Call (.Name "tuple" p1) [.Name "some" p2] [] p3) (IsT IsP D) := fun hg hlc e1 e2 e3 e4 e5 =>
    .tupleOf tstab_p (by omega) ((c3.up hg).blt (ns_tuple w) bb_tuple (by decide) e1 e2 hlc.2.1 e3 rfl) (nsm.on hg hlc) e4 e5
  -- if d != tuple(some) or 100 <= many <= 10 ** 6
  refine wpAny_execs_cons (exec_if (b := (!decide (D = D)) || (decide ((100 : Int) ≤ sizeD D) && decide (sizeD D ≤ 10 ^ 6))) (.or2 (.neT (hu _) (nd.on (stays_refl _) ⟨rfl, rfl, rfl⟩) (tup (stays_refl _) ⟨rfl, rfl, rfl⟩ rfl rfl rfl rfl rfl)) fun _ => .leLe .lit (nmany.on (stays_refl _) ⟨rfl, rfl, rfl⟩) (.pow10 (n := 6) (by decide) (by decide) .lit .lit)) fun h4 tk4 hk4 => ⟨fun hb => ?_, fun hb => wpAny_execs_nil ?_⟩)
  · refine wpAny_execs_cons (exec_ret (.eqT (hu _) (nd.on hk4 ⟨rfl, rfl, rfl⟩) (tup hk4 ⟨rfl, rfl, rfl⟩ rfl rfl rfl rfl rfl)) fun v h5 tk5 hk5 hv => ?_)
    have hv' : v = .bool true := by rw [show v = .bool (decide (D = D)) from hv]; simp
    subst hv'
    exact pure' h5 tk5 (stays_trans st3 (stays_trans hk4 hk5))
  have hb' : ¬ ((100 : Int) ≤ sizeD D ∧ sizeD D ≤ 10 ^ 6) := by
    intro ⟨q1, q2⟩
    rw [decide_eq_true q1, decide_eq_true q2] at hb
    simp at hb
  have p6 : (10 : Int) ^ 6 = 1000000 := by decide
  rw [p6] at hb'
  have c4 := c3.up hk4
  have st4 := stays_trans st3 hk4
  have k4' := k4.keeps hk4
  have bL : base.get? L = none := by
    cases q : base.get? L with
    | none => rfl
    | some o => have := hbs _ _ q; rw [hL] at this; cases this
  by_cases big : 1000000 < sizeD D
  · have hne : D ≠ [] := by rintro rfl; simp [sizeD] at big
    obtain ⟨pf, hpf⟩ : ∃ p, D[0]? = some p := by cases D with | nil => exact absurd rfl hne | cons p d => exact ⟨p, rfl⟩
    obtain ⟨pl, hpl⟩ : ∃ p, D.getLast? = some p := ⟨_, List.getLast?_eq_some_getLast hne⟩
    have hsp : sizeD D ≤ pl.2 - pf.1 + 1 := span hD (by rw [List.head?_eq_getElem?]; exact hpf) hpl
    refine wpAny_execs_cons (wpAny_Try_except (wpAny_execs_cons (wpAny_Assign_Name (Call_ ((c4.glob (v := .ref 88) (by k_is) rfl rfl rfl rfl) _ _ _ (stays_refl _) fun fv h5 tk5 hk5 hfv => ?_) rfl) (by rfl))))
    cases hfv
    obtain ⟨of, fd, hof, hdat⟩ : ∃ o fd, base.get? 88 = some o ∧ o.data = .func fd := ⟨_, _, c.fn (by k_is), rfl⟩
    refine callWith_def hdat ((EvL.one (nd.on (stays_trans hk4 hk5) ⟨rfl, rfl, rfl⟩) (stab_t tstab_p D)) _ _ _ _ (stays_refl _) fun vs h6 tk6 hk6 hr => ⟨hk6 _ _ (hk5 _ _ (st4 _ _ (hbs _ _ hof))), ?_⟩) rfl
    obtain ⟨v6, rfl, hv6⟩ := hr
    have st6 : s.heap.StaysIn h6 := stays_trans st4 (stays_trans hk5 hk6)
    have n6 := k4'.keeps (stays_trans hk5 hk6)
    obtain ⟨oL, es, ep, hoL, hdL, _⟩ := id n6
    refine values_raises (s := { s with heap := h6, toks := tk6 }) (base := base) (outer := _ :: outer) ((c.up hbs).up st6) ((rd _).less (by decide)) hv6 hl hne hpl hpf (by omega) big (by show A.frames.map _ = _; rw [hfr]; rfl) ⟨(fun q => by cases q), ⟨L, oL, rfl, bL, hoL, fun vs q => by rw [hdL] at q; cases q⟩, hfun.of_keeps fun b o eb _ => ⟨o, st6 _ _ eb, rfl⟩⟩ (stays_trans hbs st6) fun e h7 tk7 t1 hfl up7 => ?_
    refine caught_own (base := base) (outer := outer) (L := L) c (by show A.frames.map _ = _; rw [hfr]; rfl) rfl hfl rfl rfl rfl fun h8 b8 up8 => ?_
    have n8 : h8.Ns L m3 := up8.ns (up7.ns n6)
    refine wpAny_execs_cons (exec_ret (.gtI ((nmI (prog := pg) (w := w) (x := "many") n8 mmany rfl).on (stays_refl _) ⟨rfl, rfl, rfl⟩) (.pow10 (n := 6) (by decide) (by decide) .lit .lit)) fun v h9 tk9 hk9 hv => ?_)
    have hv' : v = .bool true := by rw [show v = .bool (decide ((10 : Int) ^ 6 < sizeD D)) from hv, p6, decide_eq_true big]
    subst hv'
    exact k h9 tk9 (stays_trans b8 hk9) ((Heap.UpToSlots.of_keeps st6).trans (up7.trans (up8.trans (Heap.UpToSlots.of_keeps hk9))))
  · have small : sizeD D < 100 := by omega
    have hge : 0 ≤ sizeD D := by have := valuesD_len D hD.1; omega
    have vlen := valuesD_len D hD.1
    -- told = values(d)
    refine wpAny_execs_cons (wpAny_Try_except (wpAny_execs_cons (exec_asn (R := IsL IsI (valuesD D)) (.callF (f := 88) (c4.fn (by k_is)) rfl (c4.glob (by k_is) rfl rfl rfl rfl) (.one (nd.on hk4 ⟨rfl, rfl, rfl⟩) (stab_t tstab_p D)) (fun g vs hg hv => ?_)) k4' rfl rfl (by rfl) fun tv h5 h6 tk6 hk5 htv hk6 hn6 => wpAny_execs_nil (wpAny_execs_nil ?_))))
    · obtain ⟨_, rfl, e1⟩ := hv
      exact cl_values (c4.up hg) ((rd _).less (by decide)) e1 hl hD.1 (by omega)
    have kw6 : ∀ b o, b ≠ L → h4.get? b = some o → h6.get? b = some o := fun b o hb e => hk6.extBut _ _ hb (hk5 _ _ e)
    have st6 : s.heap.StaysIn h6 := fun b o e => kw6 b o (fun q => by rw [q, hL] at e; cases e) (st4 _ _ e)
    have c6 := cs.up st6
    have hd6 := stab_t tstab_p _ _ _ _ st6 hd
    have hs6 := stab_l tstab_p _ _ _ _ st6 hsv
    have htv6 : IsL IsI (valuesD D) h6 tv := by
      obtain ⟨a, us, e, ⟨o, ho, hcl, n, hdd⟩, ra⟩ := htv
      refine ⟨a, us, e, ⟨o, hk6.extBut _ _ (fun q => ?_) ho, hcl, n, hdd⟩, ints_all2 (all2_ints ra)⟩
      obtain ⟨o', _, _, ho', hd', _⟩ := id (k4'.keeps hk5)
      rw [q, ho'] at ho; cases ho; rw [hd'] at hdd; cases hdd
    generalize hm6 : (fun y => if y = Str.ofString "told" then some tv else m3 y) = m6 at hn6
    have q6 : ∀ y : Str, y ≠ Str.ofString "told" → m6 y = m3 y := fun y hy => by rw [← hm6]; simp only [if_neg hy]
    have mtold : m6 "told" = some tv := by rw [← hm6]; simp
    have msome : m6 "some" = some sv := (q6 _ (by decide)).trans ((q3 _ (by decide)).trans ms1)
    have mmany6 : m6 "many" = some (.int (sizeD D) tm) := (q6 _ (by decide)).trans mmany
    have md6 : m6 "d" = some dv := (q6 _ (by decide)).trans ((q3 _ (by decide)).trans md1)
    have nmany6 := nmI (prog := pg) (w := w) (x := "many") hn6 mmany6 rfl
    -- due = [..] if many < 100 else None
    have hfl : (D.flatMap fun x => ((rowL x).filter fun _ => true).map fun y => y) = valuesD D := flatMap_all rowL D
    refine wpAny_execs_cons (exec_asn (R := IsL IsI (valuesD D)) (.ifExp (b := decide (sizeD D < 100)) (.lt (nmany6.on (stays_refl _) ⟨rfl, rfl, rfl⟩) .lit) (fun _ => ?_) (fun q => absurd small (by simpa using q))) hn6 rfl rfl (by rfl) fun uv h7 h8 tk8 hk7 huv hk8 hn8 => ?_)
    · refine (ev_comp2 (RS := IsP) (RS2 := IsI) (Ro := IsI) (cl := []) (items := D) (items2 := rowL) (Tg := fun z m => ∃ t u, m "first" = some (.int z.1 t) ∧ m "last" = some (.int z.2 u)) (upd := fun m m' => ∀ q : Str, q ≠ "first" → q ≠ "last" → m' q = m q)
        (Tg2 := fun z m => ∃ t, m "v" = some (.int z t)) (upd2 := fun m m' => ∀ q : Str, q ≠ "v" → m' q = m q) (fun z m => ∃ t u, m "first" = some (.int z.1 t) ∧ m "last" = some (.int z.2 u)) (fun _ _ => true) (fun _ y => y)
        (rd _).hh ((Ev.loc hn6 msome rfl rfl rfl).srcL (rd _).hh tstab_p hs6) tstab_i (fun C => binds_pair (x := "first") (y := "last") (rd _).hh rfl rfl (by decide) rfl) (fun C => binds_int rfl rfl) (.inr ⟨_, _, _, rfl⟩) (.inl ⟨_, _, rfl⟩) (fun x m h => h)
        (fun x m m' ⟨t, u, e1, e2⟩ hu => ⟨t, u, (hu _ (by decide)).trans e1, (hu _ (by decide)).trans e2⟩) (fun C D' x g m hx hg hC hDn hDl hnm ⟨t, u, e1, e2⟩ => ?_) (fun C x y g m hx hy hg hnm ⟨t, u, e1, e2⟩ ⟨t3, e3⟩ => ?_) ?_ (by rfl) (by decide) (by rfl) (by decide) (fun _ => rfl) (fun _ _ => rfl)).mono fun g y hy => by rw [hfl] at hy; exact hy
      · have cg := c6.up hg
        refine (Ev.range2 (cg.blt (ns_range w) bb_range (by decide) rfl rfl rfl rfl rfl) ((nmI (prog := pg) (w := w) (x := "first") hnm e1 rfl).on (stays_refl _) ⟨rfl, rfl, rfl⟩) (.add ((nmI (prog := pg) (w := w) (x := "last") hnm e2 rfl).on (stays_refl _) ⟨rfl, rfl, rfl⟩) .lit)).mono' fun g' y hg' hy => ⟨src_rg (rd _).hh (rangeSize_up (by have := hD.1 x hx; omega)) hy, ?_, ?_⟩
        · obtain ⟨o, _, _, ho, hdd, _⟩ := hnm.keeps hg'
          exact rg_ne hy ho fun fs q => by rw [hdd] at q; cases q
        · obtain ⟨its, o, ho, _, _, hdd⟩ := hDl
          exact rg_ne hy (hg' _ _ ho) fun fs q => by rw [hdd] at q; cases q
      · exact ⟨rfl, fun _ => (nmI (prog := pg) (w := w) (x := "v") hnm e3 rfl).on (stays_refl _) ⟨rfl, rfl, rfl⟩⟩
      · rw [hfl]; omega
    have kw8 : ∀ b o, b ≠ L → h6.get? b = some o → h8.get? b = some o := fun b o hb e => hk8.extBut _ _ hb (hk7 _ _ e)
    have st8 : s.heap.StaysIn h8 := fun b o e => kw8 b o (fun q => by rw [q, hL] at e; cases e) (st6 _ _ e)
    have c8 := cs.up st8
    have lst : ∀ {u : Value}, IsL IsI (valuesD D) h7 u → IsL IsI (valuesD D) h8 u := fun {u} hl => by
      obtain ⟨a, us, e, ⟨o, ho, hcl, n, hdd⟩, ra⟩ := hl
      refine ⟨a, us, e, ⟨o, hk8.extBut _ _ (fun q => ?_) ho, hcl, n, hdd⟩, ints_all2 (all2_ints ra)⟩
      obtain ⟨o', _, _, ho', hd', _⟩ := id (hn6.keeps hk7)
      rw [q, ho'] at ho; cases ho; rw [hd'] at hdd; cases hdd
    have hdue8 := lst huv
    have htold8 := lst (stab_l tstab_i _ _ _ _ hk7 htv6)
    have hd8 := stab_t tstab_p _ _ _ _ st8 hd
    have ndue := nmL (prog := pg) (w := w) (x := "due") tstab_i hn8 (by simp) hdue8 rfl
    have ntold := nmL (prog := pg) (w := w) (x := "told") tstab_i hn8 (by rw [if_neg (by decide)]; exact mtold) htold8 rfl
    have nd8 := nmT (prog := pg) (w := w) (x := "d") tstab_p hn8 (by rw [if_neg (by decide)]; exact md6) hd8 rfl
    obtain ⟨n, hnn⟩ : ∃ n : Nat, sizeD D = (n : Int) := ⟨_, (Int.toNat_of_nonneg hge).symm⟩
    have nmany8 := nmI (prog := pg) (w := w) (x := "many") hn8 (by rw [if_neg (by decide)]; exact mmany6) rfl
    refine wpAny_execs_cons (exec_ret (R := IsB true) (Ev.mono (.and3 (.eqI (hu _) (ntold.on (stays_refl _) ⟨rfl, rfl, rfl⟩) (ndue.on (stays_refl _) ⟨rfl, rfl, rfl⟩)) (fun _ => .eqI (ns := stepD D (n + 1) (0 - FAR)) (hu _) (.callF (f := 193) (c8.fn (by k_is)) rfl (c8.glob (by k_is) rfl rfl rfl rfl) (.two (nd8.on (stays_refl _) ⟨rfl, rfl, rfl⟩) (nmany8.on (stays_refl _) ⟨rfl, rfl, rfl⟩) (stab_t tstab_p D) stab_i) (fun g vs hg hv => ?_)) (ndue.on (stays_refl _) ⟨rfl, rfl, rfl⟩))
      (fun _ _ => .eqT (xs := fromD (valuesD D).reverse.reverse) (hu _) (.callF (f := 69) (c8.fn (by k_is)) rfl (c8.glob (by k_is) rfl rfl rfl rfl) (.one (.revL tstab_i (by omega) (ntold.on (stays_refl _) ⟨rfl, rfl, rfl⟩) (.neg .lit)) (stab_l tstab_i _)) (fun g vs hg hv => ?_)) (nd8.on (stays_refl _) ⟨rfl, rfl, rfl⟩))) fun g y hy => ?_) fun y h9 tk9 hk9 hy => ?_)
    · obtain ⟨_, _, rfl, e1, t, rfl⟩ := hv
      rw [hnn]
      exact cl_stepped (c8.up hg) ((rd _).less (by decide)) e1 (by omega)
    · obtain ⟨_, rfl, e1⟩ := hv
      exact cl_from_values (c8.up hg) ((rd _).less (by decide)) e1 (by rw [List.length_reverse]; omega) (by rw [List.pairwise_reverse]; exact (valuesD_pw hD).imp fun h => h)
    · have h1 : stepD D (n + 1) (0 - FAR) = valuesD D := stepped_all hD (fun p hp => by have := hin p hp; omega) (by omega)
      have h2 : fromD (valuesD D).reverse.reverse = D := by rw [List.reverse_reverse]; exact from_values_ok hD
      rw [h1, h2] at hy
      simpa using hy
    · cases hy
      exact pure' h9 tk9 (stays_trans st8 hk9)
end Mine
end
section -- R10
open PySem PySem.W PyProof.Rows PySem.Calls
set_option maxRecDepth 100000
set_option maxHeartbeats 400000
set_option linter.unusedVariables false
namespace Mine

/-- an evaluation that may draw; what it gives may lie on the heap -/
def Ex (w : World) (A : Around) (env : Env) (ca ce : Addr) (h₀ : Heap) (k : Nat) (e : Expr) (P : Heap → Value → Prop) : Prop :=
  ∀ (f : Nat) (s : Shared) (Q : Value → Shared → Prop) (E : Value → Shared → Prop), Kw [ca] h₀ s.heap → Can w s.heap ca ce (f + k) →
    (∀ v h' tk, Kw [ca] s.heap h' → Can w h' ca ce f → P h' v → Q v { s with heap := h', toks := tk }) → wpAny (model pg w) A (eval e env) Q E s

theorem Can.noTup {w : World} {h : Heap} {c ce : Addr} {f : Nat} (x : Can w h c ce f) : NoTup h c := by
  obtain ⟨o, _, _, ho, hd⟩ := x.obj
  intro o' ho' _ _ _ hd'
  rw [ho] at ho'; cases ho'; rw [hd] at hd'; cases hd'
theorem Kw.tl {w : World} {h h' : Heap} {c ce : Addr} {f : Nat} (k : Kw [c] h h') (x : Can w h c ce f) : TL h h' := TL.but (fun b o hb e => k b o (by simpa using hb) e) x.noTup
theorem isL_kw {α : Type} {R : α → Heap → Value → Prop} {xs : List α} {w : World} {h h' : Heap} {c ce : Addr} {f : Nat} {v : Value} (st : TStab R) (x : IsL R xs h v) (k : Kw [c] h h') (hc : Can w h c ce f) : IsL R xs h' v := by
  obtain ⟨a, vs, e, ⟨o, ho, r⟩, ra⟩ := x
  refine ⟨a, vs, e, ⟨o, k _ _ (fun q => ?_) ho, r⟩, ra.tl st (k.tl hc)⟩
  obtain ⟨o', _, _, ho', hd'⟩ := hc.obj
  obtain ⟨_, n, hd⟩ := r
  rw [List.mem_singleton.mp q, ho'] at ho; cases ho; rw [hd'] at hd; cases hd
theorem isT_kw {α : Type} {R : α → Heap → Value → Prop} {xs : List α} {w : World} {h h' : Heap} {c ce : Addr} {f : Nat} {v : Value} (st : TStab R) (x : IsT R xs h v) (k : Kw [c] h h') (hc : Can w h c ce f) : IsT R xs h' v := tstab_t st xs _ _ _ (k.tl hc) x
theorem isL_ns {α : Type} {R : α → Heap → Value → Prop} {xs : List α} {h h' : Heap} {L : Addr} {m : Str → Option Value} {v : Value} (st : TStab R) (x : IsL R xs h v) (hn : h.Ns L m) (k : ∀ b o, b ≠ L → h.get? b = some o → h'.get? b = some o) : IsL R xs h' v := by
  obtain ⟨a, us, e, ⟨o, ho, hcl, n, hdd⟩, ra⟩ := x
  refine ⟨a, us, e, ⟨o, k _ _ (fun q => ?_) ho, hcl, n, hdd⟩, ra.tl st (TL.but k (noTup_ns hn))⟩
  obtain ⟨o', _, _, ho', hd', _⟩ := id hn
  rw [q, ho'] at ho; cases ho; rw [hd'] at hdd; cases hdd
theorem isT_ns {α : Type} {R : α → Heap → Value → Prop} {xs : List α} {h h' : Heap} {L : Addr} {m : Str → Option Value} {v : Value} (st : TStab R) (x : IsT R xs h v) (hn : h.Ns L m) (k : ∀ b o, b ≠ L → h.get? b = some o → h'.get? b = some o) : IsT R xs h' v := tstab_t st xs _ _ _ (TL.but k (noTup_ns hn)) x
theorem isL_cell {α : Type} {R : α → Heap → Value → Prop} {xs : List α} {h h' : Heap} {c : Addr} {u : Option Value} {v : Value} (st : TStab R) (x : IsL R xs h v) (hc : h.IsCell c u) (k : ∀ b o, b ≠ c → h.get? b = some o → h'.get? b = some o) : IsL R xs h' v := by
  have nt : NoTup h c := by
    obtain ⟨o, ho, hd⟩ := hc
    intro o' ho' _ _ _ hd'
    rw [ho] at ho'; cases ho'; rw [hd] at hd'; cases hd'
  obtain ⟨a, us, e, ⟨o, ho, hcl, n, hdd⟩, ra⟩ := x
  refine ⟨a, us, e, ⟨o, k _ _ (fun q => ?_) ho, hcl, n, hdd⟩, ra.tl st (TL.but k nt)⟩
  obtain ⟨o', ho', hd'⟩ := hc
  rw [q, ho'] at ho; cases ho; rw [hd'] at hdd; cases hdd
theorem isT_cell {α : Type} {R : α → Heap → Value → Prop} {xs : List α} {h h' : Heap} {c : Addr} {u : Option Value} {v : Value} (st : TStab R) (x : IsT R xs h v) (hc : h.IsCell c u) (k : ∀ b o, b ≠ c → h.get? b = some o → h'.get? b = some o) : IsT R xs h' v := by
  have nt : NoTup h c := by
    obtain ⟨o, ho, hd⟩ := hc
    intro o' ho' _ _ _ hd'
    rw [ho] at ho'; cases ho'; rw [hd] at hd'; cases hd'
  exact tstab_t st xs _ _ _ (TL.but k nt) x

section
variable {w : World} {A : Around} {env : Env} {ca ce : Addr} {h₀ : Heap} {P : Heap → Value → Prop}
theorem Ex.less {e : Expr} {k k' : Nat} (h : Ex w A env ca ce h₀ k e P) (hk : k ≤ k') : Ex w A env ca ce h₀ k' e P := fun f s Q E hs hc kk =>
  h f s Q E hs (hc.less (by omega)) kk
theorem Ex.ofEv {e : Expr} (h : ∀ g, Kw [ca] h₀ g → Ev pg w A env g e P) : Ex w A env ca ce h₀ 0 e P := fun f s Q E hs hc k =>
  h s.heap hs s Q E (stays_refl _) fun v h' tk hk hv => k v h' tk (.of hk) (hc.st hk) hv
theorem Ex.mono {P' : Heap → Value → Prop} {e : Expr} {k : Nat} (h : Ex w A env ca ce h₀ k e P) (hp : ∀ g v, P g v → P' g v) : Ex w A env ca ce h₀ k e P' := fun f s Q E hs hc kk => h f s Q E hs hc fun v h' tk h1 h2 h3 => kk v h' tk h1 h2 (hp _ v h3)
theorem Ex.ifExp {test body orelse : Expr} {pos : Pos} {b : Bool} {k : Nat} (ht : ∀ g, Kw [ca] h₀ g → EvT pg w A env g test b) (h1 : b = true → Ex w A env ca ce h₀ k body P) (h2 : b = false → Ex w A env ca ce h₀ k orelse P) :
    Ex w A env ca ce h₀ k (.IfExp test body orelse pos) P := fun f s Q E hs hc kk => by
  refine wpAny_IfExp (ht s.heap hs s _ E (stays_refl _) fun h' tk hk => ?_)
  cases b with
  | true => exact h1 rfl f _ Q E (hs.trans (.of hk)) (hc.st hk) fun v h2' tk2 a c p => kk v h2' tk2 ((Kw.of hk).trans a) c p
  | false => exact h2 rfl f _ Q E (hs.trans (.of hk)) (hc.st hk) fun v h2' tk2 a c p => kk v h2' tk2 ((Kw.of hk).trans a) c p
theorem Ex.itemL {α : Type} {RR : α → Heap → Value → Prop} {xs : List α} {e ei : Expr} {pos : Pos} {k : Nat} (st : TStab RR) (hl : xs.length ≤ 1000000) (h1 : ∀ g, Kw [ca] h₀ g → Ev pg w A env g e (IsL RR xs)) (h2 : Ew w A env ca ce h₀ k ei (InZ xs.length))
    (hs : ∀ l k u, subscripted ei false (.ref l) (.int k u) = operate [.ref l, .int k u] (getItem (.ref l) (.int k u)) := by intro _ _ _; with_unfolding_all rfl) :
    Ex w A env ca ce h₀ k (.Subscript e ei pos) (fun g v => ∃ x ∈ xs, RR x g v) := fun f s Q E hs0 hc kk => by
  refine Subscript_ (h1 s.heap hs0 s _ E (stays_refl _) fun v h' tk hk hv => ?_)
  refine h2 f _ _ E (hs0.trans (.of hk)) (hc.st hk) fun iv h2' tk2 hk2 hc2 hiv => ?_
  obtain ⟨z, t, rfl, z0, z1⟩ := hiv
  obtain ⟨a, vs, rfl, hl', hr⟩ := isL_kw st hv hk2 (hc.st hk)
  have hz : z.toNat < xs.length := by omega
  obtain ⟨x, hx⟩ : ∃ x, xs[z.toNat]? = some x := ⟨_, List.getElem?_eq_getElem hz⟩
  obtain ⟨y, hy, ry⟩ := hr.get hx
  exact tail_any hl'.typeIs slot_list_getitem.lookup (wpAny_getItem_list hl' z0 (by omega) (by simpa using hy) (kk y h2' tk2 ((Kw.of hk).trans hk2) hc2 ⟨x, List.mem_of_getElem? hx, ry⟩)) (hs _ _ _)
theorem Ew.itemP {x : Int × Int} {e ei : Expr} {pos : Pos} {k : Nat} (h1 : ∀ g, Kw [ca] h₀ g → Ev pg w A env g e (IsP x)) (h2 : Ew w A env ca ce h₀ k ei (InZ 2))
    (hs : ∀ l k u, subscripted ei false (.ref l) (.int k u) = operate [.ref l, .int k u] (getItem (.ref l) (.int k u)) := by intro _ _ _; with_unfolding_all rfl) :
    Ew w A env ca ce h₀ k (.Subscript e ei pos) (InI fun y => y = x.1 ∨ y = x.2) := fun f s Q E hs0 hc kk => by
  refine Subscript_ (h1 s.heap hs0 s _ E (stays_refl _) fun v h' tk hk hv => ?_)
  refine h2 f _ _ E (hs0.trans (.of hk)) (hc.st hk) fun iv h2' tk2 hk2 hc2 hiv => ?_
  obtain ⟨z, t, rfl, z0, z1⟩ := hiv
  obtain ⟨a, t1, t2, rfl, ht⟩ := hv
  have ht2 := tup_tl ht (hk2.tl (hc.st hk))
  have hz : z = 0 ∨ z = 1 := by omega
  rcases hz with rfl | rfl
  · exact item_tupleT (l := [.int x.1 t1, .int x.2 t2]) (j := 0) ht2 (by decide) (by decide) rfl rfl (kk _ h2' tk2 ((Kw.of hk).trans hk2) hc2 ⟨_, _, rfl, .inl rfl⟩) (hs _ _ _)
  · exact item_tupleT (l := [.int x.1 t1, .int x.2 t2]) (j := 1) ht2 (by decide) (by decide) rfl rfl (kk _ h2' tk2 ((Kw.of hk).trans hk2) hc2 ⟨_, _, rfl, .inr rfl⟩) (hs _ _ _)
/-- a name given what a drawing evaluation gives -/
theorem exec_asnx {x : Str} {px pos : Pos} {e : Expr} {s : Shared} {m : Str → Option Value} {f k : Nat} {Q : Flow → Shared → Prop} {E : Value → Shared → Prop} (he : Ex w A env ca ce s.heap k e P) (hc : Can w s.heap ca ce (f + k)) (hn : s.heap.Ns env.locals m) (hcL : ca ≠ env.locals)
    (hl : env.kindOf x = some .local) (hk : env.scope.kind = .function) (hs : swapsWith e (some (.Name x px)) pos.line env = pure false)
    (kk : ∀ v h₁ h' tk, Kw [ca] s.heap h₁ → Can w h₁ ca ce f → P h₁ v → h₁.Ns env.locals m → Heap.SameBut env.locals h₁ h' → h'.Ns env.locals (fun y => if y = x then some v else m y) → Q .next { s with heap := h', toks := tk }) :
    wpAny (model pg w) A (exec (.Assign [.Name x px] e pos) env) Q E s := by
  refine wpAny_Assign_Name (he f s _ E (.refl _ _) hc fun v h₁ tk₁ hk₁ hc₁ hv => ?_) hs
  have hn₁ : h₁.Ns env.locals m := hn.at' fun o e => hk₁ _ o (by simpa using Ne.symm hcL) e
  refine wpAny_storeName_local hl hn₁ (fun h' hn' hs' => kk v h₁ h' _ hk₁ hc₁ hv hn₁ hs' hn') ?_
  rw [hk]; rfl
/-- two at once: a local and a cell -/
theorem exec_tup2c {prog : Program} {x y : Str} {px py tp pos : Pos} {k : Nat} {e : Expr} {s : Shared} {m : Str → Option Value} {cy : Addr} {v₀ : Option Value} {Q : Flow → Shared → Prop} {E : Value → Shared → Prop} (hh : A.handled = none)
    (he : wpAny (model prog w) A (eval e env) (fun v s' => ∃ a v1 v2, v = .ref a ∧ IsTup s'.heap a #[v1, v2] ∧ s'.heap.Ns env.locals m ∧ s'.heap.IsCell cy v₀ ∧
      (∀ (h3 h' : Heap) (tk : Nat), (∀ b o, b ≠ env.locals → s'.heap.get? b = some o → h3.get? b = some o) → h3.IsCell cy v₀ → (∀ b o, b ≠ cy → h3.get? b = some o → h'.get? b = some o) → h'.Ns env.locals (fun z => if z = x then some v1 else m z) → h'.IsCell cy (some v2) → Q .next { s' with heap := h', toks := tk })) E s)
    (hx : env.kindOf x = some .local) (hy : env.kindOf y = some .cell) (hcy : env.cells.lookup y = some cy) (hk : env.scope.kind = .function)
    (hs : swapsWithSole [.Tuple [.Name x px, .Name y py] k tp] e pos.line env = pure false) (hw : swappedStores [.Tuple [.Name x px, .Name y py] k tp] e env = pure none) :
    wpAny (model prog w) A (exec (.Assign [.Tuple [.Name x px, .Name y py] k tp] e pos) env) Q E s := by
  refine Assign_Tuple (wpAny_mono he (fun v s' hv => ?_) fun _ _ x => x) hs hw
  obtain ⟨a, v1, v2, rfl, ht, hn1, hc1, kk⟩ := hv
  have hp : (env.scope.kind == .class || (env.scope.kind == .module && env.locals != env.globals)) = false := by rw [hk]; rfl
  have hLc : env.locals ≠ cy := fun q => by
    obtain ⟨o, _, _, ho, hd, _⟩ := hn1
    obtain ⟨o', ho', hd'⟩ := hc1
    rw [← q, ho] at ho'; cases ho'; rw [hd] at hd'; cases hd'
  refine assign_Tuple_tuple hh ht rfl rfl fun h2 he2 => ?_
  have k2 : s'.heap.StaysIn h2 := fun b o e => he2 b o (Nat.ne_of_lt (Heap.lt_size e)) e
  refine assignInOrder_cons (wpAny_assign_Name (wpAny_storeName_local hx (hn1.keeps k2) (fun h3 hn3 hs3 => ?_) hp))
  have hc3 : h3.IsCell cy v₀ := by obtain ⟨o, ho, hd⟩ := hc1; exact ⟨o, hs3.extBut _ _ (Ne.symm hLc) (k2 _ _ ho), hd⟩
  refine assignInOrder_cons (wpAny_assign_Name (wpAny_storeName_cell (v₀ := v₀) hk hy hcy hc3 (fun h4 hc4 hs4 => ?_)))
  have hn4 : h4.Ns env.locals _ := hn3.at' fun o e => hs4.extBut _ o hLc e
  refine assignInOrder_nil ?_
  exact kk h3 h4 _ (fun b o hb e => hs3.extBut b o hb (k2 _ _ e)) hc3 hs4.extBut hn4 hc4
end

/-- the pair that a deed gives back: the domain, and the law's own row -/
def IsDS (D : Dm) (h : Heap) (v : Value) : Prop := ∃ a v1 v2, v = .ref a ∧ IsTup h a #[v1, v2] ∧ IsT IsP D h v1 ∧ IsL IsP D h v2
theorem Ev.ds {prog : Program} {w : World} {A : Around} {env : Env} {h₀ : Heap} {D D1 D2 : Dm} {e e' : Expr} {k : Nat} {pos : Pos} (h1 : Ev prog w A env h₀ e (IsT IsP D1)) (h2 : Ev prog w A env h₀ e' (IsL IsP D2)) (q1 : D1 = D) (q2 : D2 = D) (he : starEach [e, e'] env = [(false, eval e env), (false, eval e' env)] := by rfl) :
    Ev prog w A env h₀ (.Tuple [e, e'] k pos) (IsDS D) := by
  subst q1; subst q2
  exact .tuple (.two h1 h2 (stab_t tstab_p _) (stab_l tstab_p _) he) (by show 2 ≤ 1000; decide) (fun g vs ⟨_, _, e, _⟩ => by rw [e]; rfl) fun g g' vs a hg ⟨v1, v2, e, r1, r2⟩ ht => by
    subst e; exact ⟨a, v1, v2, rfl, ht, stab_t tstab_p _ _ _ _ hg r1, stab_l tstab_p _ _ _ _ hg r2⟩
end Mine
end
section -- R11
open PySem PySem.W PyProof.Rows PySem.Calls
set_option maxRecDepth 100000
set_option maxHeartbeats 400000
set_option linter.unusedVariables false
namespace Mine
theorem fillR11 : (PySem.Challenge.rw_qd0006_01, Mine.hd.heap_39) = (PySem.Challenge.rw_qd0006_01, Mine.hd.heap_39) := by k_fill; rfl

theorem Ev.nilL {α : Type} {R : α → Heap → Value → Prop} {prog : Program} {w : World} {A : Around} {env : Env} {h₀ : Heap} {pos : Pos} : Ev prog w A env h₀ (.List [] pos) (IsL R []) :=
  Ev.newL.mono fun _ _ ⟨a, e, l, _⟩ => ⟨a, [], e, l.isList, trivial⟩
/-- the literal (3, sign, k) -/
theorem Ev.lit3 {prog : Program} {w : World} {A : Around} {env : Env} {h₀ : Heap} {sg : Str} {k : Int} {e e' : Expr} {kk kk' : Nat} {p pos : Pos} (h2 : Ev prog w A env h₀ e (IsS sg)) (h3 : Ev prog w A env h₀ e' (IsI k))
    (he1 : starEach [.Constant (.int 3) kk' p, e, e'] env = (false, eval (.Constant (.int 3) kk' p) env) :: starEach [e, e'] env := by rfl) (he : starEach [e, e'] env = [(false, eval e env), (false, eval e' env)] := by rfl) :
    Ev prog w A env h₀ (.Tuple [.Constant (.int 3) kk' p, e, e'] kk pos) (IsLit sg k) :=
  .tuple (R3 := fun g vs => ∃ t1 t2 t3, vs = [.int 3 t1, .str sg t2, .int k t3]) (.cons .lit (.two h2 h3 stab_s stab_i he) stab_i (fun g v vs ⟨t1, e1⟩ ⟨v2, v3, e2, ⟨t2, e3⟩, t3, e4⟩ => ⟨t1, t2, t3, by rw [e1, e2, e3, e4]⟩) he1) (by show 3 ≤ 1000; decide) (fun g vs ⟨_, _, _, e⟩ => by rw [e]; rfl)
    (fun g g' vs a hg ⟨t1, t2, t3, e⟩ ht => ⟨a, t1, t2, t3, rfl, by rw [e] at ht; exact ht⟩)

/-- what a deed needs and gives -/
structure Bd (B : Int) (D : Dm) : Prop where
  cn : Cn B D
  lo : B0 ≤ B
  hi : B ≤ B0 + B0
theorem Bd.far {B : Int} {D : Dm} (b : Bd B D) : B + 100 < FAR := by
  have := b.hi; have := b0; rw [far_val]; omega
theorem Bd.in {B : Int} {D : Dm} (b : Bd B D) : In D := b.cn.in (by have := b.far; omega)

theorem done_spec {w : World} {A : Around} {mean : ExcName → Option Value} {mg mb : Str → Option Value} {g : Heap} {s : Shared} {ca ce : Addr} {f : Nat} {way : Int} {tw : Tok} {dv sv : Value} {D : Dm} {B : Int} {Q : Value → Shared → Prop} {E : Value → Shared → Prop}
    (c : Cx w mean mg mb g) (hg : g.StaysIn s.heap) (hgc : g.get? ca = none) (r : Rm A 7) (hc : Can w s.heap ca ce (f + 20)) (hw0 : 0 ≤ way) (hw7 : way < 7) (hd : IsT IsP D s.heap dv) (hsv : IsL IsP D s.heap sv) (hB : Bd B D) (hl : D.length ≤ 25)
    (k : ∀ v h' tk D', Kw [ca] s.heap h' → Can w h' ca ce f → IsDS D' h' v → Cn (B + T30) D' → D'.length ≤ D.length + 3 → Q v { s with heap := h', toks := tk }) :
    wpAny (model pg w) A (call (.ref 186) [.ref ca, .int way tw, dv, sv]) Q E s := by
  refine enterC (prog := pg) (binds := [("can", .ref ca), ("way", .int way tw), ("d", dv), ("some", sv)]) hg c.X c.T.nolimit (by k_is) (by k_is) r.room (by rfl) (by rfl) (fun L h₁ tk hL hs hn hcell hLs => ?_) (by rfl) (by rfl) (by rfl)
  have rd := fun env => r.deep (n := 6) env
  have hu : ∀ env, (A.deeper env).units + 2 < cLine := fun env => by have := (rd env).hu; show _ < 9900; omega
  have hkc : h₁.IsCell (L + 1) none := hcell "k" (L + 1) rfl
  have hn0 : s.heap.get? (L + 1) = none := Heap.get?_none_of_le (by rw [hLs]; exact Nat.le_succ _)
  have hc₁ := hc.st hs
  obtain ⟨m1, hn, mc1, mw1, md1, ms1⟩ : ∃ m1, h₁.Ns L m1 ∧ m1 "can" = some (.ref ca) ∧ m1 "way" = some (.int way tw) ∧ m1 "d" = some dv ∧ m1 "some" = some sv := ⟨_, hn, rfl, rfl, rfl, rfl⟩
  obtain ⟨oc, _, _, hoc, hdc⟩ := hc.obj
  have hcL : ca ≠ L := fun q => by rw [q, hL] at hoc; cases hoc
  have hcL1 : ca ≠ L + 1 := fun q => by rw [q, hn0] at hoc; cases hoc
  obtain ⟨oe, _, _, hoe, hde⟩ := hc.lst
  have hceL : ce ≠ L := fun q => by rw [q, hL] at hoe; cases hoe
  have hceL1 : ce ≠ L + 1 := fun q => by rw [q, hn0] at hoe; cases hoe
  have hd₁ := stab_t tstab_p _ _ _ _ hs hd
  have hs₁ := stab_l tstab_p _ _ _ _ hs hsv
  have out : ∀ {h'}, Kw [L, L + 1, ca] h₁ h' → Kw [ca] s.heap h' := fun kw b o nb e => kw b o (fun q => by
    rcases List.mem_cons.mp q with q | q
    · rw [q, hL] at e; cases e
    rcases List.mem_cons.mp q with q | q
    · rw [q, hn0] at e; cases e
    · exact nb q) (hs _ _ e)
  have gout : ∀ {h'}, Kw [L, L + 1, ca] h₁ h' → g.StaysIn h' := fun kw => (out kw).stays hg (by simp [hgc])
  have fin : ∀ {v h' tk D'}, Kw [L, L + 1, ca] h₁ h' → Can w h' ca ce f → IsDS D' h' v → Cn (B + T30) D' → D'.length ≤ D.length + 3 → Q v { s with heap := h', toks := tk } := fun kw hc hv hD hl' => k _ _ _ _ (out kw) hc hv hD hl'
  have nway := nmI (prog := pg) (w := w) (x := "way") hn mw1 rfl
  have far1 := hB.far
  have hBlo := hB.lo
  have hin := hB.in
  have hca := hB.cn.ca
  have hT := t30
  have hb0 := b0
  have le15 : ∀ n m : Nat, n ≤ m → m ≤ 900 → n ≤ 1000000 := fun n m h1 h2 => by omega
  refine wpAny_execs_cons (exec_if (.lt (nway.on (stays_refl _) ⟨rfl, rfl, rfl⟩) .lit) fun h2 tk2 hk2 => ⟨fun hb => ?_, fun hb => wpAny_execs_nil ?_⟩)
  · -- way < 2: a literal
    have hn2 := hn.keeps hk2
    have hc2 := hc₁.st hk2
    have g2 : g.StaysIn h2 := stays_trans hg (stays_trans hs hk2)
    have hd2 := stab_t tstab_p _ _ _ _ hk2 hd₁
    have hs2 := stab_l tstab_p _ _ _ _ hk2 hs₁
    have cw : ∀ {h}, Kw [ca] h2 h → Cx w mean mg mb h := fun kw => c.up (kw.stays g2 (by simp [hgc]))
    have nw : ∀ {h}, Kw [ca] h2 h → h.Ns L m1 := fun kw => hn2.at' fun o e => kw _ o (by simpa using Ne.symm hcL) e
    have sw : ∀ {h}, Kw [ca] h2 h → IsL IsP D h sv := fun kw => isL_kw tstab_p hs2 kw hc2
    have nsm : ∀ {h}, Kw [ca] h2 h → Nm pg w h L "some" (IsL IsP D) := fun kw => nmL tstab_p (nw kw) ms1 (sw kw) rfl
    refine wpAny_execs_cons (exec_asnx (ca := ca) (ce := ce) (f := f + 15) (k := 1) (P := fun g v => ∃ z : Int × Int, IsP z g v ∧ -B ≤ z.1 ∧ z.1 ≤ B ∧ -B ≤ z.2 ∧ z.2 ≤ B) (Ex.ifExp (b := !decide (D = [])) (fun h kw => .neL (hu _) ((nsm kw).on (stays_refl _) ⟨rfl, rfl, rfl⟩) .nilL) (fun hb => ?_) (fun hb => (Ex.ofEv fun h kw => (Ev.pair (a := 0) (b := 0) .lit .lit rfl).mono fun g v hv => ⟨(0, 0), hv, by omega, by omega, by omega, by omega⟩).less (by decide))) (hc2.less (by omega)) hn2 hcL rfl rfl (by rfl) fun pv h3 h4 tk4 k3 c3 hpv hn3 k4 hn4 => ?_)
    · have hne : D ≠ [] := by simpa using hb
      have hlen : 0 < D.length := List.length_pos_iff.mpr hne
      refine (Ex.itemL (xs := D) (RR := IsP) tstab_p (by omega) (fun h kw => (nsm kw).on (stays_refl _) ⟨rfl, rfl, rfl⟩) (Ew.draw (many := (D.length : Nat)) c g2 hgc ((rd _).less (by decide)) (by omega) (fun h kw => (cw kw).glob (by k_is) rfl rfl rfl rfl) (fun h kw => (nmV (nw kw) mc1 rfl).on (stays_refl _) ⟨rfl, rfl, rfl⟩)
        (fun h kw => .len tstab_p (by omega) ((cw kw).blt (ns_len w) bb_len (by decide) rfl rfl rfl rfl rfl) ((nsm kw).on (stays_refl _) ⟨rfl, rfl, rfl⟩)) rfl rfl) (by intro _ _ _; with_unfolding_all rfl)).mono fun g v ⟨z, hz, hv⟩ => ⟨z, hv, ?_⟩
      have := hB.cn.1 z hz
      exact ⟨by omega, by omega, by omega, by omega⟩
    obtain ⟨z, hz, zb⟩ := hpv
    have hLL1 : L + 1 ≠ L := Nat.succ_ne_self L
    have k4e : ∀ b o, b ≠ L → h3.get? b = some o → h4.get? b = some o := k4.extBut
    have up4 : ∀ b o, b ≠ L → b ≠ ca → h2.get? b = some o → h4.get? b = some o := fun b o b1 b2 e => k4e _ _ b1 (k3 _ _ (by simpa using b2) e)
    have hz4 : IsP z h4 pv := tstab_p _ _ _ _ (TL.but k4e (noTup_ns hn3)) hz
    have c4 : Can w h4 ca ce (f + 15) := c3.kw (W := [L]) (fun b o nb e => k4e _ _ (by simpa using nb) e) (by simpa using hcL) (by simpa using hceL)
    have hkc4 : h4.IsCell (L + 1) none := by obtain ⟨o, ho, hdd⟩ := hkc.keeps hk2; exact ⟨o, up4 _ _ hLL1 (Ne.symm hcL1) ho, hdd⟩
    have hs4 : IsL IsP D h4 sv := isL_ns tstab_p (isL_kw tstab_p hs2 k3 hc2) hn3 k4e
    have hd4 : IsT IsP D h4 dv := isT_ns tstab_p (isT_kw tstab_p hd2 k3 hc2) hn3 k4e
    have g4 : g.StaysIn h4 := gout (fun b o nb e => up4 b o (fun q => nb (by simp [q])) (fun q => nb (by simp [q])) (hk2 _ _ e))
    have kw4 : Kw [L, L + 1, ca] h₁ h4 := fun b o nb e => up4 b o (fun q => nb (by simp [q])) (fun q => nb (by simp [q])) (hk2 _ _ e)
    generalize hm4 : (fun y => if y = Str.ofString "pair" then some pv else m1 y) = m4 at hn4
    have hn4 : h4.Ns L m4 := hn4
    have q4 : ∀ y : Str, y ≠ Str.ofString "pair" → m4 y = m1 y := fun y hy => by rw [← hm4]; simp only [if_neg hy]
    have mpair : m4 "pair" = some pv := by rw [← hm4]; simp
    have mcan4 : m4 "can" = some (.ref ca) := (q4 _ (by decide)).trans mc1
    have cw4 : ∀ {h}, Kw [ca] h4 h → Cx w mean mg mb h := fun kw => c.up (kw.stays g4 (by simp [hgc]))
    have nw4 : ∀ {h}, Kw [ca] h4 h → h.Ns L m4 := fun kw => hn4.at' fun o e => kw _ o (by simpa using Ne.symm hcL) e
    have npair : ∀ {h}, Kw [ca] h4 h → Nm pg w h L "pair" (IsP z) := fun kw => ⟨fun hg ⟨e1, e2, e3⟩ => (Ev.loc (e1 ▸ (nw4 kw).keeps hg) mpair e2 e3 rfl).mono' fun _ _ hg' e => by cases e; exact tstab_p _ _ _ _ ((kw.tl c4).trans (.of (stays_trans hg hg'))) hz4⟩
    -- sign, k = (..)[draw], pair[draw] + draw - 2
    refine wpAny_execs_cons (exec_tup2c (m := m4) (cy := L + 1) (v₀ := none) (rd _).hh ?_ rfl rfl rfl rfl (by rfl) (by rfl))
    refine Tuple_ ?_
    refine args_cons (Ew.menu (k1 := 0) (k2 := 1) (n := 4) (P := fun v => ∃ sg t, v = .str sg t ∧ IsSg sg) (h₀ := h4) (by decide) (.cons' (k1 := 0) (k2 := 0) (.of (R := IsS "<=") (fun _ _ => .strS) fun _ _ ⟨t, e⟩ => ⟨_, t, e, .inl rfl⟩) (.cons' (k1 := 0) (k2 := 0) (.of (R := IsS ">=") (fun _ _ => .strS) fun _ _ ⟨t, e⟩ => ⟨_, t, e, .inr (.inl rfl)⟩) (.cons' (k1 := 0) (k2 := 0) (.of (R := IsS "!=") (fun _ _ => .strS) fun _ _ ⟨t, e⟩ => ⟨_, t, e, .inr (.inr (.inl rfl))⟩)
      (.cons' (k1 := 0) (k2 := 0) (.of (R := IsS "=") (fun _ _ => .strS) fun _ _ ⟨t, e⟩ => ⟨_, t, e, .inr (.inr (.inr rfl))⟩) .nil'))))
      (.drawN c g4 hgc ((rd _).less (by decide)) (by decide) hn4 mcan4 hcL rfl rfl rfl rfl rfl rfl rfl) (by intro _ _ _; with_unfolding_all rfl) (f + 14) _ _ _ (.refl _ _) c4 fun v1 h5 tk5 k5 c5 hv1 => ?_) rfl
    refine args_cons (Ew.sub (k1 := 1 + 1) (k2 := 0) (X := fun y => -B ≤ y ∧ y ≤ B + 5) (Y := fun y => y = 2) (Z := fun y => -B - 2 ≤ y ∧ y ≤ B + 3) (h₀ := h4) (.add (k1 := 1) (k2 := 1) (X := fun y => y = z.1 ∨ y = z.2) (Y := fun y => 0 ≤ y ∧ y < 5) (.itemP (fun h kw => (npair kw).on (stays_refl _) ⟨rfl, rfl, rfl⟩) (.drawN c g4 hgc ((rd _).less (by decide)) (by decide) hn4 mcan4 hcL rfl rfl rfl rfl rfl rfl rfl) (by intro _ _ _; with_unfolding_all rfl))
      (.drawN c g4 hgc ((rd _).less (by decide)) (by decide) hn4 mcan4 hcL rfl rfl rfl rfl rfl rfl rfl) (fun a b ha hb => by rcases ha with rfl | rfl <;> omega)) (.ofI (fun _ _ => .lit) rfl) (fun a b ha hb => by omega) (f + 12) _ _ _ k5 c5 fun v2 h6 tk6 k6 c6 hv2 => args_nil ?_) rfl
    obtain ⟨sg, ts, rfl, hsg⟩ := hv1
    obtain ⟨kk, tkk, rfl, kk0⟩ := hv2
    refine wpAny_newObj_type ?_ (by show 2 ≤ 16777216; decide)
    have k46 : Kw [ca] h4 (h6.push { cls := .type "tuple", data := .seq #[.str sg ts, .int kk tkk] }) := k5.trans (k6.trans (.of (stays_push _ _)))
    have c7 := c6.st (stays_push _ { cls := .type "tuple", data := .seq #[.str sg ts, .int kk tkk] })
    have ht7 : IsTup (h6.push { cls := .type "tuple", data := .seq #[.str sg ts, .int kk tkk] }) h6.objs.size #[.str sg ts, .int kk tkk] := ⟨_, Heap.get?_push_size _ rfl, rfl, 0, rfl⟩
    show ∃ a v1 v2, _
    generalize h6.push { cls := .type "tuple", data := .seq #[.str sg ts, .int kk tkk] } = h7 at k46 c7 ht7
    have hkc7 : h7.IsCell (L + 1) none := by obtain ⟨o, ho, hdd⟩ := hkc4; exact ⟨o, k46 _ _ (by simpa using Ne.symm hcL1) ho, hdd⟩
    have n7 : h7.Ns L m4 := nw4 k46
    refine ⟨_, _, _, rfl, ht7, n7, hkc7, fun h8' h8 tk8 up8' hkc8' up8 hn8 hk8 => ?_⟩
    have up8' : ∀ b o, b ≠ L → h7.get? b = some o → h8'.get? b = some o := up8'
    have kr : 0 - FAR < kk ∧ kk < FAR := ⟨by omega, by omega⟩
    have hs8 : IsL IsP D h8 sv := isL_cell tstab_p (isL_ns tstab_p (isL_kw tstab_p hs4 k46 c4) n7 up8') hkc8' up8
    have hd8 : IsT IsP D h8 dv := isT_cell tstab_p (isT_ns tstab_p (isT_kw tstab_p hd4 k46 c4) n7 up8') hkc8' up8
    have kw8 : Kw [L, L + 1, ca] h₁ h8 := kw4.trans fun b o nb e => up8 b o (fun q => nb (by simp [q])) (up8' b o (fun q => nb (by simp [q])) (k46 b o (fun q => nb (by simp at q; simp [q])) e))
    have hcan8 : Can w h8 ca ce (f + 12) := (c7.kw (W := [L]) (fun b o nb e => up8' _ _ (by simpa using nb) e) (by simpa using hcL) (by simpa using hceL)).kw (W := [L + 1]) (fun b o nb e => up8 _ _ (by simpa using nb) e) (by simpa using hcL1) (by simpa using hceL1)
    have cx8 := c.up (gout kw8)
    have m8d : (fun y => if y = Str.ofString "sign" then some (Value.str sg ts) else m4 y) "d" = some dv := by
      show (if Str.ofString "d" = Str.ofString "sign" then _ else _) = _
      rw [if_neg (by decide)]; exact (q4 _ (by decide)).trans md1
    have m8s : (fun y => if y = Str.ofString "sign" then some (Value.str sg ts) else m4 y) "some" = some sv := by
      show (if Str.ofString "some" = Str.ofString "sign" then _ else _) = _
      rw [if_neg (by decide)]; exact (q4 _ (by decide)).trans ms1
    have hn8 : h8.Ns L (fun y => if y = Str.ofString "sign" then some (Value.str sg ts) else m4 y) := hn8
    have nd8 := nmT (prog := pg) (w := w) (x := "d") tstab_p hn8 m8d hd8 rfl
    have ns8 := nmL (prog := pg) (w := w) (x := "some") tstab_p hn8 m8s hs8 rfl
    have nsg8 : Nm pg w h8 L "sign" (IsS sg) := ⟨fun hg ⟨e1, e2, e3⟩ => (Ev.loc (e1 ▸ hn8.keeps hg) (by simp) e2 e3 rfl).mono fun _ _ e => ⟨ts, e⟩⟩
    have cl := commonL
    refine wpAny_execs_cons (exec_ret (Ev.ds (D := saidD D sg kk) (D1 := struckD sg kk D) (D2 := saidD D sg kk) (.callF (f := 143) (cx8.fn (by k_is)) rfl (cx8.glob (by k_is) rfl rfl rfl rfl) (.two (.lit3 (nsg8.on (stays_refl _) ⟨rfl, rfl, rfl⟩) (.cellI hk8 rfl rfl rfl rfl)) (nd8.on (stays_refl _) ⟨rfl, rfl, rfl⟩) stab_lit (stab_t tstab_p D)) (fun g vs hg hv => ?_))
      (.callF (f := 181) (R := IsL IsP (saidD D sg kk)) (cx8.fn (by k_is)) rfl (cx8.glob (by k_is) rfl rfl rfl rfl) (EvL.cons (R4 := fun g vs => ∃ v1 t1 t2, vs = [v1, .str sg t1, .int kk t2] ∧ IsL IsP D g v1) (ns8.on (stays_refl _) ⟨rfl, rfl, rfl⟩) (.two (nsg8.on (stays_refl _) ⟨rfl, rfl, rfl⟩) (.cellI hk8 rfl rfl rfl rfl) stab_s stab_i) (stab_l tstab_p D) (fun g v vs h1 ⟨v2, v3, e, ⟨t1, e1⟩, t2, e2⟩ => ⟨v, t1, t2, by rw [e, e1, e2], h1⟩) rfl) (fun g vs hg hv => ?_)) (struck_eq sg hca hin kr) rfl) fun v h9 tk9 k9 hv => ?_)
    · obtain ⟨_, _, rfl, e1, e2⟩ := hv
      exact cl_struck (cx8.up hg) ((rd _).less (by decide)) (by omega) e1 e2
    · obtain ⟨v1, t1, t2, rfl, e1⟩ := hv
      have hcl : (commonL D (winD sg kk)).length < 64 := by have := common_len hca (win_ca sg kr); have := win_len sg kk; omega
      exact fun s Q E hs kx => cl_said (cx8.up hg) ((rd _).less (by decide)) e1 hsg hcl s Q E hs fun v h' tk k1 hv => kx v h' tk k1 hv.isL
    · refine fin (kw8.trans (.of k9)) ((hcan8.less (by omega)).st k9) hv ?_ ?_
      · exact (common_cn hB.cn (win_ca sg kr)).up (by omega)
      · have := commonD_len hca (win_ca sg kr); have := win_len sg kk; show (commonD D (winD sg kk)).length ≤ _; omega
  · refine wpAny_execs_cons (exec_if (.eq (nway.on hk2 ⟨rfl, rfl, rfl⟩) .lit) fun h3 tk3 hk3 => ⟨fun hb5 => ?_, fun hb5 => wpAny_execs_nil ?_⟩)
    · -- way == 5: moved
      have hk13 := stays_trans hk2 hk3
      have hn3 := hn.keeps hk13
      have hc3 := hc₁.st hk13
      have g3 : g.StaysIn h3 := stays_trans hg (stays_trans hs hk13)
      have hd3 := stab_t tstab_p _ _ _ _ hk13 hd₁
      have hs3 := stab_l tstab_p _ _ _ _ hk13 hs₁
      have hkc3 := hkc.keeps hk13
      refine wpAny_execs_cons (wpAny_Assign_Name ((Ew.menu (k1 := 0) (k2 := 1) (n := 3) (P := InI fun z => -T30 ≤ z ∧ z ≤ T30) (h₀ := h3) (by decide) (.cons' (k1 := 0) (k2 := 0) (.ofI (fun _ _ => .lit) (by decide)) (.cons' (k1 := 0) (k2 := 0) (.ofI (fun _ _ => .neg .lit) (by decide)) (.cons' (k1 := 0) (k2 := 0) (.ofI (fun _ _ => .pow10 (n := 30) (by decide) (by decide) .lit .lit) (by decide)) .nil')))
        (.drawN c g3 hgc ((rd _).less (by decide)) (by decide) hn3 mc1 hcL rfl rfl rfl rfl rfl rfl rfl) (by intro _ _ _; with_unfolding_all rfl)) (f + 19) _ _ _ (.refl _ _) hc3 fun v h4 tk4 k4 c4 hv => ?_) (by rfl))
      obtain ⟨kk, tkk, rfl, kk0, kk1⟩ := hv
      have hkc4 : h4.IsCell (L + 1) none := by obtain ⟨o, ho, hdd⟩ := hkc3; exact ⟨o, k4 _ _ (by simpa using Ne.symm hcL1) ho, hdd⟩
      refine wpAny_storeName_cell (v₀ := none) rfl rfl rfl hkc4 fun h5 hkc5 hs5 => ?_
      have up5 : ∀ b o, b ≠ L + 1 → h4.get? b = some o → h5.get? b = some o := hs5.extBut
      have hs5' : IsL IsP D h5 sv := isL_cell tstab_p (isL_kw tstab_p hs3 k4 hc3) hkc4 up5
      have hd5' : IsT IsP D h5 dv := isT_cell tstab_p (isT_kw tstab_p hd3 k4 hc3) hkc4 up5
      have kw5 : Kw [L, L + 1, ca] h₁ h5 := fun b o nb e => up5 b o (fun q => nb (by simp [q])) (k4 b o (fun q => nb (by simp at q; simp [q])) (hk13 _ _ e))
      have hn5 : h5.Ns L m1 := hn3.at' fun o e => up5 _ o (Ne.symm (Nat.succ_ne_self L)) (k4 _ o (by simpa using Ne.symm hcL) e)
      have hcan5 : Can w h5 ca ce (f + 19) := c4.kw (W := [L + 1]) (fun b o nb e => up5 _ _ (by simpa using nb) e) (by simpa using hcL1) (by simpa using hceL1)
      have cx5 := c.up (gout kw5)
      have nd5 := nmT (prog := pg) (w := w) (x := "d") tstab_p hn5 md1 hd5' rfl
      refine wpAny_execs_cons (exec_ret (Ev.ds (D := shiftedD D kk) (D1 := shiftedD D kk) (D2 := shiftedD D kk) (.callF (f := 131) (cx5.fn (by k_is)) rfl (cx5.glob (by k_is) rfl rfl rfl rfl) (.two (nd5.on (stays_refl _) ⟨rfl, rfl, rfl⟩) (.cellI hkc5 rfl rfl rfl rfl) (stab_t tstab_p D) stab_i) (fun g vs hg hv => ?_))
        (ev_compP0 (cl := [("k", L + 1)]) (fun p => (p.1 + kk, p.2 + kk)) (rd _).hh ((Ev.loc hn5 ms1 rfl rfl rfl).srcL (rd _).hh tstab_p hs5') tstab_p (by omega)
          (fun C z g hz hg lo hi => .pair (.add (lo _) (.cellI (hkc5.keeps hg) rfl rfl rfl rfl)) (.add (hi _) (.cellI (hkc5.keeps hg) rfl rfl rfl rfl))) (fun _ => rfl) (fun _ => rfl) (by decide) rfl rfl (by rfl) (by decide) (by rfl) (by decide) (fun _ => rfl)) rfl rfl) fun v h9 tk9 k9 hv => ?_)
      · obtain ⟨_, _, rfl, e1, u, rfl⟩ := hv
        exact cl_shifted (cx5.up hg) ((rd _).less (by decide)) (by omega) e1
      · exact fin (kw5.trans (.of k9)) ((hcan5.less (by omega)).st k9) hv (shifted_cn' hB.cn kk0 kk1) (by rw [shifted_len]; omega)
    refine wpAny_execs_cons (exec_if (.eq (nway.on (stays_trans hk2 hk3) ⟨rfl, rfl, rfl⟩) .lit) fun h4 tk4 hk4 => ⟨fun hb6 => ?_, fun hb6 => wpAny_execs_nil ?_⟩)
    · -- way == 6: turned in its sign
      have hk14 := stays_trans hk2 (stays_trans hk3 hk4)
      have hn4 := hn.keeps hk14
      have hd4 := stab_t tstab_p _ _ _ _ hk14 hd₁
      have hs4 := stab_l tstab_p _ _ _ _ hk14 hs₁
      have kw4 : Kw [L, L + 1, ca] h₁ h4 := .of hk14
      have cx4 := c.up (gout kw4)
      have nd4 := nmT (prog := pg) (w := w) (x := "d") tstab_p hn4 md1 hd4 rfl
      refine wpAny_execs_cons (exec_ret (Ev.ds (D := negatedD D) (D1 := negatedD D) (D2 := sortD (D.map fun p => (0 - p.2, 0 - p.1))) (.callF (f := 136) (cx4.fn (by k_is)) rfl (cx4.glob (by k_is) rfl rfl rfl rfl) (.one (nd4.on (stays_refl _) ⟨rfl, rfl, rfl⟩) (stab_t tstab_p D)) (fun g vs hg hv => ?_))
        ((Ev.sortL (xs := D.map fun p => (0 - p.2, 0 - p.1)) (cx4.blt (ns_sorted w) bb_sorted (by decide) rfl rfl rfl rfl rfl) (ev_compP0 (cl := []) (fun p => (0 - p.2, 0 - p.1)) (rd _).hh ((Ev.loc hn4 ms1 rfl rfl rfl).srcL (rd _).hh tstab_p hs4) tstab_p (by omega)
          (fun C z g hz hg lo hi => .pair (.sub .lit (hi _)) (.sub .lit (lo _))) (fun _ => rfl) (fun _ => rfl) (by decide) rfl rfl (by rfl) (by decide) (by rfl) (by decide) (fun _ => rfl)) (by rw [List.length_map]; omega) rfl rfl).mono fun _ _ h => h.isL) rfl (negated_sorted hca).symm) fun v h9 tk9 k9 hv => ?_)
      · obtain ⟨_, rfl, e1⟩ := hv
        exact cl_negated (cx4.up hg) ((rd _).less (by decide)) (by omega) e1
      · exact fin (kw4.trans (.of k9)) ((hc₁.st (stays_trans hk14 k9)).less (by omega)) hv ((negated_cn hB.cn).up (by omega)) (by rw [negated_len]; omega)
    -- others = _law_ranges(can, 1 + _law_draw(can, 2))
    have hk14 := stays_trans hk2 (stays_trans hk3 hk4)
    have hn4 := hn.keeps hk14
    have hc4 := hc₁.st hk14
    have g4 : g.StaysIn h4 := stays_trans hg (stays_trans hs hk14)
    have hd4 := stab_t tstab_p _ _ _ _ hk14 hd₁
    have hs4 := stab_l tstab_p _ _ _ _ hk14 hs₁
    have cx4 := c.up g4
    obtain ⟨of, fd, hof, hdat⟩ : ∃ o fd, g.get? 164 = some o ∧ o.data = .func fd := ⟨_, _, c.fn (by k_is), rfl⟩
    have cw4 : ∀ {h}, Kw [ca] h4 h → g.StaysIn h := fun kw => kw.stays g4 (by simp [hgc])
    refine wpAny_execs_cons (wpAny_Assign_Name (Call_ ((cx4.glob (v := .ref 164) (by k_is) rfl rfl rfl rfl) _ _ _ (stays_refl _) fun fv h5 tk5 k5 hfv => ?_) rfl) (by rfl))
    cases hfv
    refine callWith_def hdat (EwL.cons (k1 := 0) (k2 := 1) (h₀ := h4) (P := fun v => v = .ref ca) (.of (R := IsV (.ref ca)) (fun h kw => (nmV (hn4.at' fun o e => kw _ o (by simpa using Ne.symm hcL) e) mc1 rfl).on (stays_refl _) ⟨rfl, rfl, rfl⟩) fun _ _ e => e) (.cons (k1 := 0 + 1) (k2 := 0) (P := InI fun z => 1 ≤ z ∧ z ≤ 2) (.add (X := fun z => z = 1) (Y := fun z => 0 ≤ z ∧ z < 2) (.ofI (fun _ _ => .lit) rfl)
      (.drawN c g4 hgc ((rd _).less (by decide)) (by decide) hn4 mc1 hcL rfl rfl rfl rfl rfl rfl rfl) (fun a b ha hb => by omega)) .nil rfl) rfl _ (f + 19) _ _ _ (.of k5) (hc4.st k5) fun vs h6 tk6 k6 c6 hvs => ⟨cw4 ((Kw.of k5).trans k6) _ _ hof, ?_⟩) rfl
    obtain ⟨_, _, rfl, rfl, _, _, rfl, ⟨zn, tn, rfl, hz1, hz2⟩, rfl⟩ := hvs
    obtain ⟨n, rfl⟩ : ∃ n : Nat, zn = n := ⟨zn.toNat, by omega⟩
    refine ranges_spec (s := { s with heap := h6, toks := tk6 }) (f := f + 10) c (cw4 ((Kw.of k5).trans k6)) hgc ((rd _).less (by decide)) (c6.less (by omega)) (by omega) fun fa h7 tk7 e us k7 hfa hls ha hce hlen c7 => ?_
    have k47 : Kw [ca] h4 h7 := ((Kw.of k5).trans k6).trans k7
    have hn7 : h7.Ns L m1 := hn4.at' fun o e => k47 _ o (by simpa using Ne.symm hcL) e
    refine wpAny_storeName_local rfl hn7 (fun h8 hn8 hs8 => ?_) (by rfl)
    have up8 : ∀ b o, b ≠ L → h7.get? b = some o → h8.get? b = some o := hs8.extBut
    have hs8' : IsL IsP D h8 sv := isL_ns tstab_p (isL_kw tstab_p hs4 k47 hc4) hn7 up8
    have hd8' : IsT IsP D h8 dv := isT_ns tstab_p (isT_kw tstab_p hd4 k47 hc4) hn7 up8
    have he8 : IsL IsP e h8 (.ref fa) := isL_ns tstab_p ⟨fa, us, rfl, hls.isList, ha⟩ hn7 up8
    have kw8 : Kw [L, L + 1, ca] h₁ h8 := fun b o nb e => up8 b o (fun q => nb (by simp [q])) (k47 b o (fun q => nb (by simp at q; simp [q])) (hk14 _ _ e))
    have hcan8 : Can w h8 ca ce (f + 10) := c7.kw (W := [L]) (fun b o nb e => up8 _ _ (by simpa using nb) e) (by simpa using hcL) (by simpa using hceL)
    have cx8 := c.up (gout kw8)
    have hn8 : h8.Ns L (fun y => if y = Str.ofString "others" then some (.ref fa) else m1 y) := hn8
    have m8 : ∀ y : Str, y ≠ Str.ofString "others" → (fun y => if y = Str.ofString "others" then some (.ref fa) else m1 y) y = m1 y := fun y hy => by simp only [if_neg hy]
    have nd8 := nmT (prog := pg) (w := w) (x := "d") tstab_p hn8 ((m8 _ (by decide)).trans md1) hd8' rfl
    have ns8 := nmL (prog := pg) (w := w) (x := "some") tstab_p hn8 ((m8 _ (by decide)).trans ms1) hs8' rfl
    have no8 := nmL (prog := pg) (w := w) (x := "others") tstab_p hn8 (by simp) he8 rfl
    have nway8 := nmI (prog := pg) (w := w) (x := "way") hn8 ((m8 _ (by decide)).trans mw1) rfl
    have eca := hce.ca
    have ein : In e := hce.in (by rw [far_val]; omega)
    have elen : e.length ≤ 2 := by omega
    refine wpAny_execs_cons (exec_if (.eq (nway8.on (stays_refl _) ⟨rfl, rfl, rfl⟩) .lit) fun h9 tk9 k9 => ⟨fun hb2 => ?_, fun hb2 => wpAny_execs_nil ?_⟩)
    · -- way == 2: in common
      have cx9 := cx8.up k9
      refine wpAny_execs_cons (exec_ret (Ev.ds (D := commonD D e) (D1 := meetD D e) (D2 := commonD D e) (.callF (f := 112) (cx9.fn (by k_is)) rfl (cx9.glob (by k_is) rfl rfl rfl rfl) (.two (nd8.on k9 ⟨rfl, rfl, rfl⟩) (.tupleOf tstab_p (by omega) (cx9.blt (ns_tuple w) bb_tuple (by decide) rfl rfl rfl rfl rfl) (no8.on k9 ⟨rfl, rfl, rfl⟩) rfl rfl) (stab_t tstab_p D) (stab_t tstab_p e)) (fun g vs hg hv => ?_))
        (.callF (f := 169) (R := IsL IsP (commonD D e)) (cx9.fn (by k_is)) rfl (cx9.glob (by k_is) rfl rfl rfl rfl) (.two (ns8.on k9 ⟨rfl, rfl, rfl⟩) (no8.on k9 ⟨rfl, rfl, rfl⟩) (stab_l tstab_p D) (stab_l tstab_p e)) (fun g vs hg hv => ?_)) (meet_eq hca eca) rfl) fun v h10 tk10 k10 hv => ?_)
      · obtain ⟨_, _, rfl, e1, e2⟩ := hv
        exact cl_meet (cx9.up hg) ((rd _).less (by decide)) e1 e2 (by omega) (by omega)
      · obtain ⟨_, _, rfl, e1, e2⟩ := hv
        have hcl : (commonL D e).length < 64 := by have := common_len hca eca; omega
        exact fun s Q E hs kx => cl_common (cx9.up hg) ((rd _).less (by decide)) e1 e2 hcl s Q E hs fun v h' tk k1 hv => kx v h' tk k1 hv.isL
      · exact fin (kw8.trans (.of (stays_trans k9 k10))) ((hcan8.st (stays_trans k9 k10)).less (by omega)) hv ((common_cn hB.cn eca).up (by omega)) (by have := commonD_len hca eca; omega)
    refine wpAny_execs_cons (exec_if (.eq (nway8.on k9 ⟨rfl, rfl, rfl⟩) .lit) fun h10 tk10 k10 => ⟨fun hb3 => ?_, fun hb3 => wpAny_execs_nil ?_⟩)
    · -- way == 3: one less the other
      have k910 := stays_trans k9 k10
      have cx9 := cx8.up k910
      have oca := outside_ca eca ein
      have olen := outside_len e
      refine wpAny_execs_cons (exec_ret (Ev.ds (D := commonD D (outsideD e)) (D1 := minusD D e) (D2 := commonD D (outsideD e)) (.callF (f := 126) (cx9.fn (by k_is)) rfl (cx9.glob (by k_is) rfl rfl rfl rfl) (.two (nd8.on k910 ⟨rfl, rfl, rfl⟩) (.tupleOf tstab_p (by omega) (cx9.blt (ns_tuple w) bb_tuple (by decide) rfl rfl rfl rfl rfl) (no8.on k910 ⟨rfl, rfl, rfl⟩) rfl rfl) (stab_t tstab_p D) (stab_t tstab_p e)) (fun g vs hg hv => ?_))
        (.callF (f := 169) (R := IsL IsP (commonD D (outsideD e))) (cx9.fn (by k_is)) rfl (cx9.glob (by k_is) rfl rfl rfl rfl) (.two (ns8.on k910 ⟨rfl, rfl, rfl⟩) (.callF (f := 174) (cx9.fn (by k_is)) rfl (cx9.glob (by k_is) rfl rfl rfl rfl) (.one (no8.on k910 ⟨rfl, rfl, rfl⟩) (stab_l tstab_p e)) (fun g vs hg hv => ?_)) (stab_l tstab_p D) (stab_l tstab_p (outsideD e))) (fun g vs hg hv => ?_)) (minus_eq hca eca hin ein) rfl) fun v h11 tk11 k11 hv => ?_)
      · obtain ⟨_, _, rfl, e1, e2⟩ := hv
        exact cl_minus (cx9.up hg) ((rd _).less (by decide)) e1 e2 (by omega) (by omega)
      · obtain ⟨_, rfl, e1⟩ := hv
        exact cl_outside (cx9.up hg) ((rd _).less (by decide)) e1 (by omega)
      · obtain ⟨_, _, rfl, e1, e2⟩ := hv
        have hcl : (commonL D (outsideD e)).length < 64 := by have := common_len hca oca; omega
        exact fun s Q E hs kx => cl_common (cx9.up hg) ((rd _).less (by decide)) e1 e2 hcl s Q E hs fun v h' tk k1 hv => kx v h' tk k1 hv.isL
      · exact fin (kw8.trans (.of (stays_trans k910 k11))) ((hcan8.st (stays_trans k910 k11)).less (by omega)) hv ((common_cn hB.cn oca).up (by omega)) (by have := commonD_len hca oca; omega)
    -- else: all of both
    have k910 := stays_trans k9 k10
    have cx9 := cx8.up k910
    have oca := outside_ca eca ein
    have dca := outside_ca hca hin
    have olen := outside_len e
    have dlen := outside_len D
    have clen := commonD_len dca oca
    refine wpAny_execs_cons (exec_ret (Ev.ds (D := joinD D e) (D1 := joinD D e) (D2 := outsideD (commonD (outsideD D) (outsideD e))) (.callF (f := 119) (cx9.fn (by k_is)) rfl (cx9.glob (by k_is) rfl rfl rfl rfl) (.two (nd8.on k910 ⟨rfl, rfl, rfl⟩) (.tupleOf tstab_p (by omega) (cx9.blt (ns_tuple w) bb_tuple (by decide) rfl rfl rfl rfl rfl) (no8.on k910 ⟨rfl, rfl, rfl⟩) rfl rfl) (stab_t tstab_p D) (stab_t tstab_p e)) (fun g vs hg hv => ?_))
      (.callF (f := 174) (cx9.fn (by k_is)) rfl (cx9.glob (by k_is) rfl rfl rfl rfl) (.one (.callF (f := 169) (R := IsL IsP (commonD (outsideD D) (outsideD e))) (cx9.fn (by k_is)) rfl (cx9.glob (by k_is) rfl rfl rfl rfl) (.two
        (.callF (f := 174) (cx9.fn (by k_is)) rfl (cx9.glob (by k_is) rfl rfl rfl rfl) (.one (ns8.on k910 ⟨rfl, rfl, rfl⟩) (stab_l tstab_p D)) (fun g vs hg hv => ?_))
        (.callF (f := 174) (cx9.fn (by k_is)) rfl (cx9.glob (by k_is) rfl rfl rfl rfl) (.one (no8.on k910 ⟨rfl, rfl, rfl⟩) (stab_l tstab_p e)) (fun g vs hg hv => ?_)) (stab_l tstab_p (outsideD D)) (stab_l tstab_p (outsideD e))) (fun g vs hg hv => ?_)) (stab_l tstab_p (commonD (outsideD D) (outsideD e)))) (fun g vs hg hv => ?_)) rfl (join_eq hca eca hin ein).symm) fun v h11 tk11 k11 hv => ?_)
    · obtain ⟨_, _, rfl, e1, e2⟩ := hv
      exact cl_join (cx9.up hg) ((rd _).less (by decide)) e1 e2 (by omega)
    · obtain ⟨_, rfl, e1⟩ := hv
      exact cl_outside (cx9.up hg) ((rd _).less (by decide)) e1 (by omega)
    · obtain ⟨_, rfl, e1⟩ := hv
      exact cl_outside (cx9.up hg) ((rd _).less (by decide)) e1 (by omega)
    · obtain ⟨_, _, rfl, e1, e2⟩ := hv
      have hcl : (commonL (outsideD D) (outsideD e)).length < 64 := by have := common_len dca oca; omega
      exact fun s Q E hs kx => cl_common (cx9.up hg) ((rd _).less (by decide)) e1 e2 hcl s Q E hs fun v h' tk k1 hv => kx v h' tk k1 hv.isL
    · obtain ⟨_, rfl, e1⟩ := hv
      exact cl_outside (cx9.up hg) ((rd _).less (by decide)) e1 (by omega)
    · exact fin (kw8.trans (.of (stays_trans k910 k11))) ((hcan8.st (stays_trans k910 k11)).less (by omega)) hv ((join_cn hB.cn (hce.up hBlo)).up (by omega)) (by have := join_len D e; omega)
end Mine
end
section -- R12
open PySem PySem.W PyProof.Rows PySem.Calls
set_option maxRecDepth 100000
set_option maxHeartbeats 400000
set_option linter.unusedVariables false
namespace Mine
section
variable {α : Type} {prog : Program} {w : World} {A : Around} {env : Env} {R : Heap → Value → Prop}
theorem for_core {RS : α → Heap → Value → Prop} {items : List α} {target : Expr} {body : List Stmt} {xv : Value} {s : Shared} {m : Str → Option Value} {Q : Flow → Shared → Prop} {E : Value → Shared → Prop}
    {Tg : α → (Str → Option Value) → Prop} {upd : (Str → Option Value) → (Str → Option Value) → Prop} (W : List Addr) (Inv : List α → Heap → (Str → Option Value) → Prop)
    (hsrc : Src prog w A RS items s.heap xv) (hxv : ∀ a ∈ W, xv ≠ .ref a)
    (hW : ∀ a ∈ W, (∃ o, s.heap.get? a = some o) ∧ NoTup s.heap a) (hLW : env.locals ∈ W) (hb : Binds prog w A env RS target Tg upd) (htgt : (∃ x p, target = .Name x p) ∨ ∃ es k p, target = .Tuple es k p)
    (hn : s.heap.Ns env.locals m) (h0 : ∀ h, s.heap.StaysIn h → Inv [] h m)
    (stI : ∀ pre h h' m, Inv pre h m → Lk env.locals h h' → Inv pre h' m) (stM : ∀ pre h m m', Inv pre h m → upd m m' → Inv pre h m')
    (turn : ∀ pre x post (s' : Shared) m', items = pre ++ x :: post → Kw W s.heap s'.heap → s'.heap.Ns env.locals m' → Tg x m' → Inv pre s'.heap m' → (∃ h tk, s' = { s with heap := h, toks := tk }) →
      wpAny (model prog w) A (execs body env) (fun f s'' => match f with
        | .ret v => Q (.ret v) s''
        | .brk => Q .next s''
        | _ => ∃ h'' tk m'', s'' = { s' with heap := h'', toks := tk } ∧ Kw W s'.heap h'' ∧ h''.Ns env.locals m'' ∧ Inv (pre ++ [x]) h'' m'') (fun _ _ => False) s')
    (done : ∀ h' tk m', Kw W s.heap h' → h'.Ns env.locals m' → Inv items h' m' → Q .next { s with heap := h', toks := tk }) :
    wpAny (model prog w) A (pyIter xv) (fun it s₂ => codeAny (model prog w) A (.forLoop target it body [] env) (fun r s' => match r with | .ok f => Q f s' | .error e => cameBackBy (model prog w) A env E e s') s₂) E s := by
  have hk1 : s.heap.StaysIn s.heap := stays_refl _
  refine hsrc _ _ _ (stays_refl _) fun I fp P St h2 Wk hst hk2 hI hfp hInt hfpx hit hgo => ?_
  have hIs : s.heap.get? I = none := by
    cases e : s.heap.get? I with
    | none => rfl
    | some o => have := hk1 _ _ e; rw [hI] at this; cases this
  have hWfp : ∀ b ∈ fp, b ∉ W := fun b hb hw => by
    rcases hfpx b hb with e | e
    · obtain ⟨⟨o, ho⟩, _⟩ := hW b hw
      rw [e, hIs] at ho; cases ho
    · exact hxv b hw e
  have hLI : env.locals ≠ I := fun e => by obtain ⟨⟨o, ho⟩, _⟩ := hW _ hLW; rw [e, hIs] at ho; cases ho
  have hgo' : ∀ i (s' : Shared) (v : Value) (Q' : Unit → Shared → Prop) (E' : Value → Shared → Prop), St i s'.heap → Q' () s' → wpAny (model prog w) A (letOwnedTupleGo target (.ref I) v) Q' E' s' := by
    intro i s' v Q' E' hst' hq
    rcases htgt with ⟨x, p, rfl⟩ | ⟨es, kk, p, rfl⟩
    · exact wpAny_pure hq
    · exact hgo i s' es kk p v Q' E' hst' hq
  have tlW : ∀ h, Kw W s.heap h → TL s.heap h := fun h hk b o its n e hc hd => by
    refine hk b o (fun hb => ?_) e
    obtain ⟨⟨o', ho'⟩, nt⟩ := hW b hb
    have e' := hk1 _ _ ho'
    rw [e] at e'; cases e'
    exact nt o ho' hc its n hd
  refine codeAny_forLoop_any
    (fun k s' => ∃ i h tk m', s' = { s with heap := h, toks := tk } ∧ i ≤ items.length ∧ k = items.length + 1 - i ∧ St i h ∧ Kw W s.heap h ∧ h.Ns env.locals m' ∧ Inv (items.take i) h m') ?_ (items.length + 1)
    ⟨0, h2, s.toks, m, rfl, Nat.zero_le _, rfl, hst, .of hk2, hn.keeps (stays_trans hk1 hk2), h0 _ (stays_trans hk1 hk2)⟩
  rintro k s' ⟨i, h, tk, m', rfl, hi, rfl, hst', hkw, hn', hInv⟩
  obtain ⟨oI, fs, hoI, hdI⟩ := hInt _ _ hst'
  refine wpAny_noRaise ?_
  by_cases hlt : i < items.length
  · refine Wk.item i _ _ _ hlt hst' fun v h₁ tk₁ hP hst₁ hk₁ => ?_
    have hk₁' : ∀ b o, b ≠ I → h.get? b = some o → h₁.get? b = some o := fun b o hb e => hk₁ b o (fun q => hb (List.mem_singleton.mp q)) e
    obtain ⟨x, hx, hrs⟩ := hit i v hP
    have lk₁ : Lk env.locals h h₁ := .fld hoI hdI hk₁'
    have hn₁ : h₁.Ns env.locals m' := hn'.at' fun o e => hk₁' _ o hLI e
    refine hgo' _ _ _ _ _ hst₁ ?_
    refine hb x v m' _ _ _ (hrs _ ((tlW _ hkw).trans lk₁.tl)) hn₁ fun h₂ tk₂ m₂ hn₂ htg hupd hk₂ => ?_
    have lk₂ : Lk env.locals h₁ h₂ := .ns hn₁ hk₂
    have htake : items.take (i + 1) = items.take i ++ [x] := by simp [List.take_add_one, hx]
    have hsp : items = items.take i ++ x :: items.drop (i + 1) := by
      have ht := List.take_append_drop (i + 1) items
      rw [htake, List.append_assoc] at ht
      exact ht.symm
    have hkw₂ : Kw W s.heap h₂ := fun b o nb e => hk₂ b o (fun q => nb (q ▸ hLW)) (hk₁' b o (fun q => by rw [q, hI] at e; cases e) (hkw b o nb e))
    have hst₂ : St (i + 1) h₂ := Wk.frame _ _ _ hst₁ fun b hb o e => hk₂ b o (fun q => hWfp b hb (q ▸ hLW)) e
    refine wpAny_mono (turn _ x _ _ m₂ hsp (fun b o nb e => hkw₂ b o nb (hk1 _ _ e)) hn₂ htg (stM _ _ _ _ (stI _ _ _ _ hInv (lk₁.trans lk₂)) hupd) ⟨_, _, rfl⟩) (fun f s3 h3 => ?_) fun _ _ x => x.elim
    have fin : (∃ h'' tk m'', s3 = ({ s with heap := h'', toks := tk } : Shared) ∧ Kw W h₂ h'' ∧ h''.Ns env.locals m'' ∧ Inv (items.take i ++ [x]) h'' m'') →
        ∃ mm, mm < items.length + 1 - i ∧ ∃ i h tk m', s3 = ({ s with heap := h, toks := tk } : Shared) ∧ i ≤ items.length ∧ mm = items.length + 1 - i ∧ St i h ∧ Kw W s.heap h ∧ h.Ns env.locals m' ∧ Inv (items.take i) h m' := by
      rintro ⟨h'', tk'', m'', rfl, k3, n3, i3⟩
      exact ⟨items.length + 1 - (i + 1), by omega, i + 1, h'', tk'', m'', rfl, hlt, rfl, Wk.frame _ _ _ hst₂ fun b hb o e => k3 b o (hWfp b hb) e, hkw₂.trans k3, n3, by rw [htake]; exact i3⟩
    cases f with
    | ret v => exact h3
    | brk => exact h3
    | next => exact fin h3
    | cont => exact fin h3
  · have hin : i = items.length := by omega
    subst hin
    rw [List.take_length] at hInv
    refine Wk.done _ _ _ hst' fun h₁ tk₁ hk₁ => wpAny_execs_nil ?_
    have hk₁' : ∀ b o, b ≠ I → h.get? b = some o → h₁.get? b = some o := fun b o hb e => hk₁ b o (fun q => hb (List.mem_singleton.mp q)) e
    exact done h₁ tk₁ m' (fun b o nb e => hk₁' b o (fun q => by rw [q, hIs] at e; cases e) (hkw b o nb (hk1 _ _ e))) (hn'.at' fun o e => hk₁' _ o hLI e) (stI _ _ _ _ hInv (.fld hoI hdI hk₁'))
end
end Mine
end
section -- R13
open PySem PySem.W PyProof.Rows PySem.Calls
set_option maxRecDepth 100000
set_option maxHeartbeats 400000
set_option linter.unusedVariables false
namespace Mine
theorem fillR13 : (PySem.Challenge.rw_qd0006_01, Mine.hd.heap_39) = (PySem.Challenge.rw_qd0006_01, Mine.hd.heap_39) := by k_fill; rfl
theorem ns_list (w : World) : nsIn (hd.heap_39 w.params) mainGlobals "list" = some none := by k_is
theorem bb_list : bootBuiltins "list" = some (.type "list") := by boot_fast

/-- nothing but ints -/
def OnlyI (vs : List Value) : Prop := ∀ v ∈ vs, ∃ z t, v = .int z t
theorem OnlyI.all2 : ∀ {vs : List Value}, OnlyI vs → ∃ ns : List Int, ns.length = vs.length ∧ ∀ h, All2 IsI h ns vs
  | [], _ => ⟨[], rfl, fun _ => trivial⟩
  | v :: vs, h => by
    obtain ⟨z, t, rfl⟩ := h v (by simp)
    obtain ⟨ns, hl, ha⟩ := OnlyI.all2 (vs := vs) fun u hu => h u (by simp [hu])
    exact ⟨z :: ns, by simp [hl], fun g => ⟨⟨t, rfl⟩, ha g⟩⟩
theorem only_of : ∀ {h : Heap} {ns : List Int} {vs : List Value}, All2 IsI h ns vs → OnlyI vs
  | _, [], [], _ => fun v hv => by simp at hv
  | _, _ :: _, _ :: _, ⟨⟨t, e⟩, b⟩ => fun v hv => by
    rcases List.mem_cons.mp hv with rfl | hv
    · exact ⟨_, t, e⟩
    · exact only_of b v hv
  | _, [], _ :: _, x => x.elim
  | _, _ :: _, [], x => x.elim
/-- a list of ints, no longer than this -/
def IsLn (n : Nat) (h : Heap) (v : Value) : Prop := ∃ ns : List Int, ns.length ≤ n ∧ IsL IsI ns h v
theorem stab_ln {n : Nat} : Stab (IsLn n) := fun _ _ _ hs ⟨ns, hl, x⟩ => ⟨ns, hl, stab_l tstab_i ns _ _ _ hs x⟩
theorem isLn_of {n : Nat} {h : Heap} {a : Addr} {vs : List Value} (hl : h.IsList a vs.toArray) (ho : OnlyI vs) (hn : vs.length ≤ n) : IsLn n h (.ref a) := by
  obtain ⟨ns, hlen, ha⟩ := ho.all2
  exact ⟨ns, by omega, a, vs, rfl, hl, ha h⟩
theorem IsLn.up {n m : Nat} {h : Heap} {v : Value} (x : IsLn n h v) (k : n ≤ m) : IsLn m h v := let ⟨ns, hl, y⟩ := x; ⟨ns, by omega, y⟩

section
variable {prog : Program} {w : World} {A : Around} {env : Env} {h₀ : Heap}
def OnlyN (n : Nat) (_ : Heap) (vs : List Value) : Prop := vs.length = n ∧ OnlyI vs
theorem EvL.intsNil : EvL prog w A env h₀ [] (OnlyN 0) := fun pos s Q E _ k => args_nil (k _ s.heap s.toks (stays_refl _) ⟨rfl, fun v hv => by simp at hv⟩)
theorem EvL.intsCons {e : Expr} {rest : List Expr} {z : Int} {n : Nat} (h1 : Ev prog w A env h₀ e (IsI z)) (h2 : EvL prog w A env h₀ rest (OnlyN n)) (he : starEach (e :: rest) env = (false, eval e env) :: starEach rest env := by rfl) : EvL prog w A env h₀ (e :: rest) (OnlyN (n + 1)) :=
  .cons h1 h2 stab_i (fun g v vs ⟨t, e⟩ ⟨hl, ho⟩ => ⟨by simp [hl], fun u hu => by
    rcases List.mem_cons.mp hu with rfl | hu
    · exact ⟨_, t, e⟩
    · exact ho u hu⟩) he
theorem EvL.intsC {i : Int} {k : Nat} {p : Pos} {rest : List Expr} {n : Nat} (h2 : EvL prog w A env h₀ rest (OnlyN n)) : EvL prog w A env h₀ (.Constant (.int i) k p :: rest) (OnlyN (n + 1)) := .intsCons .lit h2 rfl
theorem Ev.intsL {es : List Expr} {n : Nat} {pos : Pos} (h : EvL prog w A env h₀ es (OnlyN n)) (hn : es.length = n) (hn2 : n ≤ 1000) : Ev prog w A env h₀ (.List es pos) (IsLn n) :=
  .list h (by omega) (fun g vs ⟨e, _⟩ => by omega) fun g g' vs a hg ⟨hl, ho⟩ hob => isLn_of ⟨_, hob, rfl, 0, rfl⟩ ho (by omega)
/-- script[:60] -/
theorem Ev.headL {n : Nat} {e u : Expr} {b : Int} {p pos : Pos} (hn : n ≤ 1000000) (h1 : Ev prog w A env h₀ e (IsLn n)) (h2 : Ev prog w A env h₀ u (IsI b)) (ht : ∀ o r, letTemporaryGo e o r = pure () := by intro _ _; rfl) :
    Ev prog w A env h₀ (.Subscript e (.Slice none (some u) none p) pos) (IsLn n) := fun s Q E hs k => by
  refine wpAny_Subscript_list_slice (h1 s _ E hs fun o h' tk hk hv => ?_) ht
  rw [evalPart_none, evalPart_some]
  refine wpAny_pure (h2 _ _ E (stays_trans hs hk) fun bv h2' tk2 hk2 hb => ?_)
  obtain ⟨t, rfl⟩ := hb
  obtain ⟨ns, hlen, a, vs, rfl, hl, hr⟩ := stab_ln _ _ _ hk2 hv
  have hvl := hr.len
  refine ⟨a, vs.toArray, none, some b, rfl, hl, by rw [List.size_toArray, hvl, sizeLine_eq]; omega, .none, .int _ _, ?_⟩
  have hkk : h2'.StaysIn ((h2'.push { cls := .type "slice", data := .fields #[Value.none, .int b t, .none] }).push { cls := .type "list", data := .seq (slicePick vs.toArray none (some b) none) }) := stays_trans (stays_push _ _) (stays_push _ _)
  refine k _ _ tk2 (stays_trans hk (stays_trans hk2 hkk)) (isLn_of (vs := (slicePick vs.toArray none (some b) none).toList) ⟨_, by
    have := Heap.get?_push_size (h2'.push { cls := .type "slice", data := .fields #[Value.none, .int b t, .none] }) (o := { cls := .type "list", data := .seq (slicePick vs.toArray none (some b) none) }) rfl
    rw [Heap.size_push] at this; exact this, rfl, 0, rfl⟩ (fun v hv => ?_) ?_)
  · unfold slicePick at hv
    rw [List.toList_toArray] at hv
    obtain ⟨i, _, hi⟩ := List.mem_filterMap.mp hv
    exact only_of hr v (by
      have : (vs.toArray)[i]? = some v := hi
      rw [List.getElem?_toArray] at this
      exact List.mem_of_getElem? this)
  · have := slicePick_size_le vs.toArray none (some b) none
    have e : vs.toArray.size = ns.length := by rw [List.size_toArray, hvl]
    rw [Array.length_toList]; omega
/-- list(xs) -/
theorem Ev.listOf {n : Nat} {func e : Expr} {pos : Pos} (hn : n ≤ 1000000) (hf : Ev prog w A env h₀ func (IsV (.type "list"))) (h1 : Ev prog w A env h₀ e (IsLn n))
    (he : starEach [e] env = [(false, eval e env)] := by rfl) (hcall : eval (.Call func [e] [] pos) env = (do callWith pos (← eval func env) [] (backTo pos (starEach [e] env)) (backToKw pos (keywordEach [] env))) := by rfl) :
    Ev prog w A env h₀ (.Call func [e] [] pos) (IsLn n) := by
  refine hf.callT (.one h1 stab_ln he) (fun s vs Q E _ hr k => ?_) he rfl hcall
  obtain ⟨v, rfl, ns, hlen, a, us, rfl, ⟨o, ho, hc, m, hd⟩, hr⟩ := hr
  refine call_list_seq a (.inl rfl) ho hc hd (fun h' c' hk hD => ?_) (by have := hr.len; rw [List.size_toArray, this, sizeLine_eq]; omega)
  exact k _ h' s.toks hk (isLn_of ⟨_, hD, rfl, c', rfl⟩ (only_of hr) (by rw [hr.len]; exact hlen))
theorem Ev.lenN {n : Nat} {func e : Expr} {pos : Pos} {ns : List Int} (hn : ns.length ≤ 1000000) (hf : Ev prog w A env h₀ func (IsV (.builtin "len"))) (h1 : Ev prog w A env h₀ e (IsL IsI ns))
    (he : starEach [e] env = [(false, eval e env)] := by rfl) (hcall : eval (.Call func [e] [] pos) env = (do callWith pos (← eval func env) [] (backTo pos (starEach [e] env)) (backToKw pos (keywordEach [] env))) := by rfl) :
    Ev prog w A env h₀ (.Call func [e] [] pos) (IsI ns.length) := .len tstab_i hn hf h1 he hcall
end

/-- two at once, both local, in order -/
theorem exec_tupLL {A : Around} {env : Env} {prog : Program} {w : World} {x y : Str} {px py tp pos : Pos} {k : Nat} {e : Expr} {s : Shared} {m : Str → Option Value} {Q : Flow → Shared → Prop} {E : Value → Shared → Prop} (hh : A.handled = none)
    (he : wpAny (model prog w) A (eval e env) (fun v s' => ∃ a v1 v2, v = .ref a ∧ IsTup s'.heap a #[v1, v2] ∧ s'.heap.Ns env.locals m ∧
      (∀ (h' : Heap) (tk : Nat), (∀ b o, b ≠ env.locals → s'.heap.get? b = some o → h'.get? b = some o) → h'.Ns env.locals (fun z => if z = y then some v2 else if z = x then some v1 else m z) → Q .next { s' with heap := h', toks := tk })) E s)
    (hx : env.kindOf x = some .local) (hy : env.kindOf y = some .local) (hk : env.scope.kind = .function)
    (hs : swapsWithSole [.Tuple [.Name x px, .Name y py] k tp] e pos.line env = pure false) (hw : swappedStores [.Tuple [.Name x px, .Name y py] k tp] e env = pure none) :
    wpAny (model prog w) A (exec (.Assign [.Tuple [.Name x px, .Name y py] k tp] e pos) env) Q E s := by
  refine Assign_Tuple (wpAny_mono he (fun v s' hv => ?_) fun _ _ x => x) hs hw
  obtain ⟨a, v1, v2, rfl, ht, hn1, kk⟩ := hv
  have hp : (env.scope.kind == .class || (env.scope.kind == .module && env.locals != env.globals)) = false := by rw [hk]; rfl
  refine assign_Tuple_tuple hh ht rfl rfl fun h2 he2 => ?_
  have k2 : s'.heap.StaysIn h2 := fun b o e => he2 b o (Nat.ne_of_lt (Heap.lt_size e)) e
  refine assignInOrder_cons (wpAny_assign_Name (wpAny_storeName_local hx (hn1.keeps k2) (fun h3 hn3 hs3 => ?_) hp))
  refine assignInOrder_cons (wpAny_assign_Name (wpAny_storeName_local hy hn3 (fun h4 hn4 hs4 => ?_) hp))
  refine assignInOrder_nil ?_
  exact kk h4 _ (fun b o hb e => hs4.extBut b o hb (hs3.extBut b o hb (k2 _ _ e))) hn4
theorem upd_ne {m : Str → Option Value} {x y : Str} {v r : Option Value} (h : y ≠ x) (e : m y = r) : (fun z => if z = x then v else m z) y = r := by simp only [if_neg h]; exact e
theorem upd_eq {m : Str → Option Value} {x : Str} {v : Option Value} : (fun z => if z = x then v else m z) x = v := by simp
theorem isL_lk {α : Type} {R : α → Heap → Value → Prop} {xs : List α} {h h' : Heap} {L : Addr} {v : Value} (st : TStab R) (x : IsL R xs h v) (k : Lk L h h') : IsL R xs h' v :=
  let ⟨a, vs, e, l, r⟩ := x; ⟨a, vs, e, k.isList l, r.tl st k.tl⟩
end Mine
end
section -- R14
open PySem PySem.W PyProof.Rows PySem.Calls
set_option maxRecDepth 100000
set_option maxHeartbeats 400000
set_option linter.unusedVariables false
namespace Mine
theorem fillR14 : (PySem.Challenge.rw_qd0006_01, Mine.hd.heap_39) = (PySem.Challenge.rw_qd0006_01, Mine.hd.heap_39) := by k_fill; rfl

/-- the law's own check, called from a frame of the text -/
theorem listed_at {w : World} {A : Around} {mean : ExcName → Option Value} {mg mb : Str → Option Value} {g : Heap} {s : Shared} {env : Env} {L : Addr} {m : Str → Option Value} {dv sv : Value} {D : Dm} {Q : Value → Shared → Prop} {E : Value → Shared → Prop}
    (c : Cx w mean mg mb g) (hg : g.StaysIn s.heap) (gL : g.get? L = none) (r : Rm A 6) (hfr : A.frames = some [env]) (hf : env.frame = some L) (hk : env.scope.kind = .function) (hn : s.heap.Ns L m) (hd : IsT IsP D s.heap dv) (hsv : IsL IsP D s.heap sv) (hD : Ca D) (hin : In D) (hl : D.length ≤ 1000)
    (k : ∀ h' tk, Kw [L] s.heap h' → h'.Ns L m → Q (.bool true) { s with heap := h', toks := tk }) : wpAny (model pg w) A (call (.ref 198) [dv, sv]) Q E s := by
  have hb : (hideAll s.heap [L]).StaysIn s.heap := fun b o e => of_hideAll _ e
  have hgb : g.StaysIn (hideAll s.heap [L]) := fun b o e => hideAll_get _ (hg _ _ e) fun q => by rw [List.mem_singleton.mp q, gL] at e; cases e
  obtain ⟨oL, es, ep, hoL, hdL, _⟩ := id hn
  refine listed_spec (base := hideAll s.heap [L]) (outer := [env]) (c.up hgb) hb r hd hsv hD hin hl hfr ⟨(fun q => by rw [hk] at q; cases q), ⟨L, oL, hf, hideAll_none _ (by simp), hoL, fun vs q => by rw [hdL] at q; cases q⟩, trivial⟩ fun h' tk b' up' => ?_
  exact k h' tk (fun b o nb e => b' _ _ (hideAll_get _ e nb)) (up'.ns hn)

theorem law_spec {w : World} {A : Around} {mean : ExcName → Option Value} {mg mb : Str → Option Value} {s : Shared} {v : Value} {ns : List Int} {Q : Value → Shared → Prop} {E : Value → Shared → Prop}
    (c : Cx w mean mg mb s.heap) (r : Rm A 9) (hfr : A.frames = some []) (hv : IsL IsI ns s.heap v) (hlen : ns.length ≤ 63)
    (k : ∀ h' tk, s.heap.StaysIn h' → Q (.bool true) { s with heap := h', toks := tk }) :
    wpAny (model pg w) A (call (.ref 205) [v]) Q E s := by
  refine enterC (prog := pg) (binds := [("script", v)]) (stays_refl _) c.X c.T.nolimit (by k_is) (by k_is) r.room (by rfl) (by rfl) (fun L h₁ tk hL hs hn _ _ => ?_) (by rfl) (by rfl) (by rfl)
  have rd := fun env => r.deep (n := 8) env
  have hu : ∀ env, (A.deeper env).units + 2 < cLine := fun env => by have := (rd env).hu; show _ < 9900; omega
  obtain ⟨m1, hn, ms1⟩ : ∃ m1, h₁.Ns L m1 ∧ m1 "script" = some v := ⟨_, hn, rfl⟩
  -- built
  refine wpAny_execs_cons ?_
  generalize hle : Expr.List _ _ = le
  refine exec_asn (R := IsLn 12) ?_ hn rfl rfl ?_ fun bv h2 h3 tk3 k2 hbv k3 hn3 => ?_
  · subst hle
    with_reducible refine Ev.intsL (n := 12) ?h1 ?h2 ?h3
    case h2 => rfl
    case h3 => decide
    iterate 12 (with_reducible refine EvL.intsC ?_)
    exact EvL.intsNil
  · subst hle; rfl
  have k3e : ∀ b o, b ≠ L → h2.get? b = some o → h3.get? b = some o := k3.extBut
  have hn3 : h3.Ns L (fun y => if y = Str.ofString "built" then some bv else m1 y) := hn3
  have st3 : s.heap.StaysIn h3 := fun b o e => k3e b o (fun q => by rw [q, hL] at e; cases e) (k2 _ _ (hs _ _ e))
  have hb3 : IsLn 12 h3 bv := let ⟨ns, hl, x⟩ := hbv; ⟨ns, hl, isL_ns tstab_i x (hn.keeps k2) k3e⟩
  have hv3 := stab_l tstab_i _ _ _ _ st3 hv
  have c3 := c.up st3
  have nscr := nmL (prog := pg) (w := w) (x := "script") tstab_i hn3 (upd_ne (by decide) ms1) hv3 rfl
  have nscrN : Nm pg w h3 L "script" (IsLn 63) := ⟨fun hg hl => (nscr.on hg hl).mono fun _ _ h => ⟨ns, hlen, h⟩⟩
  have nbuilt : Nm pg w h3 L "built" (IsLn 63) := ⟨fun hg ⟨e1, e2, e3⟩ => (Ev.loc (e1 ▸ hn3.keeps hg) upd_eq e2 e3 rfl).mono' fun _ _ hg' e => by cases e; exact (stab_ln _ _ _ (stays_trans hg hg') hb3).up (by decide)⟩
  -- can = {..}
  refine wpAny_execs_cons ?_
  generalize hde : Expr.Dict _ _ _ = de
  refine exec_asn (R := fun g u => ∃ D us, u = .ref D ∧ g.DictOf (PySem.strKind pg w) D (merged [] (List.zip ["cells", "at"] us)) ∧ us.length = 2 ∧ (∃ v1 vs, us = v1 :: vs ∧ IsLn 63 g v1 ∧ ∃ v2 vs2, vs = v2 :: vs2 ∧ IsI 0 g v2 ∧ vs2 = []) ∧ h3.get? D = none) ?_ hn3 rfl rfl ?_ fun cv h4 h5 tk5 k4 hcv k5 hn5 => ?_
  · subst hde
    refine .dictD (ks := ["cells", "at"]) (RL := fun h us => ∃ v1 vs, us = v1 :: vs ∧ IsLn 63 h v1 ∧ ∃ v2 vs2, vs = v2 :: vs2 ∧ IsI 0 h v2 ∧ vs2 = []) ?_ ?_ rfl rfl (by simp) (by decide)
    · refine .cons stab_ln (.ifExp (b := decide ((0 : Int) < ns.length)) (.gt (.lenN (n := 0) (by omega) (c3.blt (ns_len w) bb_len (by decide) rfl rfl rfl rfl rfl) (nscr.on (stays_refl _) ⟨rfl, rfl, rfl⟩) rfl rfl) .lit) (fun _ => .listOf (by decide) (c3.blt (ns_list w) bb_list (by decide) rfl rfl rfl rfl rfl) (.headL (by decide) (nscrN.on (stays_refl _) ⟨rfl, rfl, rfl⟩) .lit) rfl rfl) (fun _ => nbuilt.on (stays_refl _) ⟨rfl, rfl, rfl⟩)) (.cons stab_i .lit .nil)
    · rintro h h' D us kw hD ⟨v1, u1, rfl, ⟨ms, hml, a1⟩, v2, u2, rfl, a2, rfl⟩
      exact ⟨v1, _, rfl, ⟨ms, hml, std_l tstab_i _ _ _ D _ kw hD a1⟩, v2, _, rfl, a2, rfl⟩
  · subst hde; rfl
  obtain ⟨ca, us, rfl, hdict, _, ⟨v1, u1, rfl, ⟨cs, hcs, hc1⟩, v2, u2, rfl, ⟨t2, rfl⟩, rfl⟩, hcan⟩ := hcv
  obtain ⟨ce, vcs, rfl, hlc, hrc⟩ := id hc1
  have hcan4 : Can w h4 ca ce 1000 := ⟨cs, 0, t2, hdict, hc1, by omega, by omega⟩
  have hgc : s.heap.get? ca = none := by
    cases q : s.heap.get? ca with
    | none => rfl
    | some o => have := st3 _ _ q; rw [hcan] at this; cases this
  have hn4 := hn3.keeps k4
  have hcL : ca ≠ L := fun q => by obtain ⟨o, _, _, ho, _⟩ := hn3; rw [q, ho] at hcan; cases hcan
  have hceL : ce ≠ L := fun q => by
    obtain ⟨o, _, _, ho, hd, _⟩ := hn4
    obtain ⟨o', ho', _, _, hd'⟩ := hlc
    rw [q, ho] at ho'; cases ho'; rw [hd] at hd'; cases hd'
  have k5e : ∀ b o, b ≠ L → h4.get? b = some o → h5.get? b = some o := k5.extBut
  have hcan5 : Can w h5 ca ce 1000 := hcan4.kw (W := [L]) (fun b o nb e => k5e _ _ (by simpa using nb) e) (by simpa using hcL) (by simpa using hceL)
  have kw5 : Kw [L, ca] s.heap h5 := fun b o nb e => k5e b o (fun q => nb (by simp [q])) (k4 _ _ (st3 _ _ e))
  have g5 : s.heap.StaysIn h5 := fun b o e => kw5 b o (fun q => by
    rcases List.mem_cons.mp q with q | q
    · rw [q, hL] at e; cases e
    · rw [List.mem_singleton.mp q, hgc] at e; cases e) e
  obtain ⟨m5, hn5, mc5⟩ : ∃ m5, h5.Ns L m5 ∧ m5 "can" = some (.ref ca) := ⟨_, hn5, upd_eq⟩
  -- many = _law_draw(can, 4)
  refine wpAny_execs_cons (exec_asnw (ca := ca) (ce := ce) (f := 999) (k := 1) (P := InZ 4) (.drawN c g5 hgc ((rd _).less (by decide)) (by decide) hn5 mc5 hcL rfl rfl rfl rfl rfl rfl rfl) hcan5 hn5 hcL rfl rfl (by rfl) fun mv h6 h7 tk7 k6 c6 hmv k7 hn7 => ?_)
  obtain ⟨zm, tm, rfl, zm0, zm1⟩ := hmv
  obtain ⟨nm, rfl⟩ : ∃ nm : Nat, zm = nm := ⟨zm.toNat, by omega⟩
  have k7e : ∀ b o, b ≠ L → h6.get? b = some o → h7.get? b = some o := k7.extBut
  have c7 : Can w h7 ca ce 999 := c6.kw (W := [L]) (fun b o nb e => k7e _ _ (by simpa using nb) e) (by simpa using hcL) (by simpa using hceL)
  have kw57 : Kw [L, ca] h5 h7 := fun b o nb e => k7e b o (fun q => nb (by simp [q])) (k6 b o (fun q => nb (by simp at q; simp [q])) e)
  have out : ∀ {h}, Kw [L, ca] s.heap h → s.heap.StaysIn h := fun kw b o e => kw b o (fun q => by
    rcases List.mem_cons.mp q with q | q
    · rw [q, hL] at e; cases e
    · rw [List.mem_singleton.mp q, hgc] at e; cases e) e
  have kw7 : Kw [L, ca] s.heap h7 := kw5.trans kw57
  have g7 := out kw7
  have hn7 : h7.Ns L (fun y => if y = Str.ofString "many" then some (.int nm tm) else m5 y) := hn7
  have mc7 := upd_ne (m := m5) (x := Str.ofString "many") (v := some (.int nm tm)) (y := Str.ofString "can") (by decide) mc5
  have cx7 := c.up g7
  -- some = _law_ranges(can, 1 + many)
  obtain ⟨of, fd, hof, hdat⟩ : ∃ o fd, s.heap.get? 164 = some o ∧ o.data = .func fd := ⟨_, _, c.fn (by k_is), rfl⟩
  refine wpAny_execs_cons (wpAny_Assign_Name (Call_ ((cx7.glob (v := .ref 164) (by k_is) rfl rfl rfl rfl) _ _ _ (stays_refl _) fun fv h8 tk8 k8 hfv => ?_) rfl) (by rfl))
  cases hfv
  refine callWith_def hdat ((EvL.two (R1 := IsV (.ref ca)) (R2 := IsI (1 + nm)) ((nmV hn7 mc7 rfl).on k8 ⟨rfl, rfl, rfl⟩) (.add .lit ((nmI hn7 upd_eq rfl).on k8 ⟨rfl, rfl, rfl⟩)) stab_v stab_i rfl) _ _ _ _ (stays_refl _) fun vs h9 tk9 k9 hvs => ⟨k9 _ _ (k8 _ _ (g7 _ _ hof)), ?_⟩) rfl
  obtain ⟨_, _, rfl, e1, tn, rfl⟩ := hvs
  cases e1
  have k79 := stays_trans k8 k9
  rw [show (1 + (nm : Int)) = ((1 + nm : Nat) : Int) by push_cast; rfl]
  refine ranges_spec (s := { s with heap := h9, toks := tk9 }) (f := 950) c (stays_trans g7 k79) hgc ((rd _).less (by decide)) ((c7.st k79).less (by omega)) (by omega) fun fa h10 tk10 D us k10 hfa hls ha hD hDl c10 => ?_
  have hn9 : h9.Ns L _ := hn7.keeps k79
  have hn10 : h10.Ns L _ := hn9.at' fun o e => k10 _ o (by simpa using Ne.symm hcL) e
  refine wpAny_storeName_local rfl hn10 (fun h11 hn11 hs11 => ?_) (by rfl)
  have k11e : ∀ b o, b ≠ L → h10.get? b = some o → h11.get? b = some o := hs11.extBut
  have c11 : Can w h11 ca ce 950 := c10.kw (W := [L]) (fun b o nb e => k11e _ _ (by simpa using nb) e) (by simpa using hcL) (by simpa using hceL)
  have hl11 : IsL IsP D h11 (.ref fa) := isL_ns tstab_p ⟨fa, us, rfl, hls.isList, ha⟩ hn10 k11e
  have kw11 : Kw [L, ca] s.heap h11 := kw7.trans fun b o nb e => k11e b o (fun q => nb (by simp [q])) (k10 b o (fun q => nb (by simp at q; simp [q])) (k79 _ _ e))
  have g11 := out kw11
  have hD4 : D.length ≤ 4 := by omega
  obtain ⟨m11, hn11, mc11, ms11⟩ : ∃ m11, h11.Ns L m11 ∧ m11 "can" = some (.ref ca) ∧ m11 "some" = some (.ref fa) := ⟨_, hn11, upd_ne (by decide) mc7, upd_eq⟩
  -- if _law_draw(can, 13) == 12: some = []
  refine wpAny_execs_cons (wpAny_mono (Q := fun fl s' => fl = .next ∧ ∃ h tk m D sv, s' = ({ s with heap := h, toks := tk } : Shared) ∧ Kw [L, ca] s.heap h ∧ h.Ns L m ∧ m "can" = some (.ref ca) ∧ m "some" = some sv ∧ IsL IsP D h sv ∧ Cn B0 D ∧ D.length ≤ 4 ∧ Can w h ca ce 900) (E := fun _ _ => False) ?_ (fun fl s' hx => ?_) fun _ _ x => x)
  · refine wpAny_If (wpAny_isTrue_Compare1 (Ew.drawN (h₀ := h11) (ca := ca) (ce := ce) c g11 hgc ((rd _).less (by decide)) (by decide) hn11 mc11 hcL rfl rfl rfl rfl rfl rfl rfl 949 _ _ _ (.refl _ _) c11 fun zv h12 tk12 k12 c12 hzv => ?_) (by with_unfolding_all rfl))
    obtain ⟨z, tz, rfl, hz0, hz1⟩ := hzv
    refine Ev.lit (prog := pg) (w := w) (h₀ := h12) _ _ _ (stays_refl _) fun u h13 tk13 k13 hu => ?_
    obtain ⟨tu, rfl⟩ := hu
    refine PyProof.Rows.eq_int (wpAny_truthy_bool ?_)
    have kw13 : Kw [L, ca] s.heap h13 := kw11.trans fun b o nb e => k13 _ _ (k12 b o (fun q => nb (by simp at q; simp [q])) e)
    have hn13 : h13.Ns L m11 := (hn11.at' fun o e => k12 _ o (by simpa using Ne.symm hcL) e).keeps k13
    have c13 := c12.st k13
    cases hz : (z == 12) with
    | false =>
      simp only [Bool.false_eq_true, if_false]
      exact wpAny_execs_nil ⟨rfl, h13, _, m11, D, _, rfl, kw13, hn13, mc11, ms11, stab_l tstab_p _ _ _ _ k13 (isL_kw tstab_p hl11 k12 c11), hD, hD4, c13.less (by omega)⟩
    | true =>
      simp only [if_true]
      refine wpAny_execs_cons (exec_asn (R := IsL IsP []) .nilL hn13 rfl rfl (by rfl) fun v h14 h15 tk15 k14 hv k15 hn15 => wpAny_execs_nil ?_)
      have k15e : ∀ b o, b ≠ L → h14.get? b = some o → h15.get? b = some o := k15.extBut
      have hn14 := hn13.keeps k14
      exact ⟨rfl, h15, _, _, [], v, rfl, kw13.trans fun b o nb e => k15e b o (fun q => nb (by simp [q])) (k14 _ _ e), hn15, upd_ne (by decide) mc11, upd_eq, isL_ns tstab_p hv hn14 k15e, ⟨by simp, .nil⟩, by simp, ((c13.st k14).kw (W := [L]) (fun b o nb e => k15e _ _ (by simpa using nb) e) (by simpa using hcL) (by simpa using hceL)).less (by omega)⟩
  clear hl11 hD4 hD hDl ha hls
  obtain ⟨rfl, h, tk16, m, D, sv, rfl, kw, hn16, mc, ms, hsv, hD, hDl, hcn⟩ := hx
  have gx := out kw
  have cx := c.up gx
  have gL : s.heap.get? L = none := hL
  -- d = tuple(some)
  refine wpAny_execs_cons (exec_asn (R := IsT IsP D) (.tupleOf tstab_p (by omega) (cx.blt (ns_tuple w) bb_tuple (by decide) rfl rfl rfl rfl rfl) ((nmL (prog := pg) (w := w) (x := "some") tstab_p hn16 ms hsv rfl).on (stays_refl _) ⟨rfl, rfl, rfl⟩) rfl rfl) hn16 rfl rfl (by rfl) fun dv h17 h18 tk18 k17 hdv k18 hn18 => ?_)
  have k18e : ∀ b o, b ≠ L → h17.get? b = some o → h18.get? b = some o := k18.extBut
  have hn17 := hn16.keeps k17
  have hd18 : IsT IsP D h18 dv := isT_ns tstab_p hdv hn17 k18e
  have hs18 : IsL IsP D h18 sv := isL_ns tstab_p (stab_l tstab_p _ _ _ _ k17 hsv) hn17 k18e
  have c18 : Can w h18 ca ce 900 := (hcn.st k17).kw (W := [L]) (fun b o nb e => k18e _ _ (by simpa using nb) e) (by simpa using hcL) (by simpa using hceL)
  have kw18 : Kw [L, ca] s.heap h18 := kw.trans fun b o nb e => k18e b o (fun q => nb (by simp [q])) (k17 _ _ e)
  have g18 := out kw18
  have cx18 := c.up g18
  obtain ⟨m18, hn18, mc18, md18, ms18⟩ : ∃ m18, h18.Ns L m18 ∧ m18 "can" = some (.ref ca) ∧ m18 "d" = some dv ∧ m18 "some" = some sv := ⟨_, hn18, upd_ne (by decide) mc, upd_eq, upd_ne (by decide) ms⟩
  -- for lap in range(1 + _law_draw(can, 6))
  refine wpAny_execs_cons (wpAny_For ?_ (fun _ => rfl))
  refine Call_ ((cx18.blt (ns_range w) bb_range (by decide) rfl rfl rfl rfl rfl) _ _ _ (stays_refl _) fun fv h19 tk19 k19 hfv => ?_) rfl
  cases hfv
  refine callWith_type1 (EwL.cons (k1 := 0 + 1) (k2 := 0) (h₀ := h18) (ca := ca) (ce := ce) (P := InI fun z => 1 ≤ z ∧ z ≤ 6) (Ew.add (X := fun z => z = 1) (Y := fun z => 0 ≤ z ∧ z < 6) (.ofI (fun _ _ => .lit) rfl) (Ew.drawN c g18 hgc ((rd _).less (by decide)) (by decide) hn18 mc18 hcL rfl rfl rfl rfl rfl rfl rfl) (fun a b ha hb => by omega)) .nil rfl _ 899 _ _ _ (.of k19) (c18.st k19) fun vs h20 tk20 k20 c20 hvs => ?_) rfl rfl
  obtain ⟨_, _, rfl, ⟨zn, tn', rfl, hz1, hz2⟩, rfl⟩ := hvs
  obtain ⟨n, rfl⟩ : ∃ n : Nat, zn = n := ⟨zn.toNat, by omega⟩
  refine call_range_1 ?_
  have hrg : IsRg 0 n 1 (h20.push { cls := .type "range", data := .fields #[.int 0 tk20, .int n tn', .int 1 (tk20 + 1)] }) (.ref h20.objs.size) := ⟨_, _, _, _, rfl, Heap.get?_push_size _ rfl⟩
  have k21 : h20.StaysIn (h20.push { cls := .type "range", data := .fields #[.int 0 tk20, .int n tn', .int 1 (tk20 + 1)] }) := stays_push _ _
  show wpAny _ _ (pyIter (.ref h20.objs.size)) _ _ _
  dsimp only
  generalize h20.push { cls := .type "range", data := .fields #[.int 0 tk20, .int n tn', .int 1 (tk20 + 1)] } = h21 at hrg k21
  have k1821 : Kw [ca] h18 h21 := (Kw.of k19).trans (k20.trans (.of k21))
  have hn21 : h21.Ns L m18 := hn18.at' fun o e => k1821 _ o (by simpa using Ne.symm hcL) e
  have c21 : Can w h21 ca ce 899 := c20.st k21
  have hd21 := isT_kw tstab_p hd18 k1821 c18
  have hs21 := isL_kw tstab_p hs18 k1821 c18
  have kw21 : Kw [L, ca] s.heap h21 := kw18.trans fun b o nb e => k1821 b o (fun q => nb (by simp at q; simp [q])) e
  have hT := t30
  have hb0 := b0
  have hrl : (rngL 0 1 n).length = n := by unfold rngL; simp
  have hWo : ∀ a ∈ [L, ca], (∃ o, h21.get? a = some o ∧ ∀ fs, o.data ≠ .fields fs) ∧ NoTup h21 a := fun a ha => by
    rcases List.mem_cons.mp ha with rfl | ha
    · obtain ⟨o, _, _, ho, hd, _⟩ := id hn21; exact ⟨⟨o, ho, fun fs q => by rw [hd] at q; cases q⟩, noTup_ns hn21⟩
    · rw [List.mem_singleton.mp ha]
      obtain ⟨o, _, _, ho, hd⟩ := c21.obj
      exact ⟨⟨o, ho, fun fs q => by rw [hd] at q; cases q⟩, c21.noTup⟩
  refine for_core (RS := IsI) (items := rngL 0 1 n) (W := [L, ca]) (s := { s with heap := h21, toks := tk20 + 1 + 1 }) (m := m18) (Inv := fun pre h m => m "can" = some (.ref ca) ∧ ∃ D dv sv, m "d" = some dv ∧ m "some" = some sv ∧ IsT IsP D h dv ∧ IsL IsP D h sv ∧ Cn (B0 + 1000000000000000000000000000000 * (pre.length : Int)) D ∧ D.length ≤ 4 + 3 * pre.length ∧ Can w h ca ce (899 - 30 * pre.length))
    (src_rg (rd _).hh (rangeSize1 n) hrg) (fun a ha => let ⟨⟨o, ho, hd⟩, _⟩ := hWo a ha; rg_ne hrg ho hd) (fun a ha => ⟨let ⟨⟨o, ho, _⟩, _⟩ := hWo a ha; ⟨o, ho⟩, (hWo a ha).2⟩) (by simp [envOfC]) (binds_int rfl rfl) (.inl ⟨_, _, rfl⟩) hn21
    (fun h' hk => ⟨mc18, D, dv, sv, md18, ms18, stab_t tstab_p _ _ _ _ hk hd21, stab_l tstab_p _ _ _ _ hk hs21, hD.up (by simp), by simpa using hDl, c21.st hk⟩)
    (fun pre h h' m ⟨x1, D, dv, sv, x2, x3, x4, x5, x6, x7, x8⟩ lk => ⟨x1, D, dv, sv, x2, x3, tstab_t tstab_p _ _ _ _ lk.tl x4, isL_lk tstab_p x5 lk, x6, x7, x8.lk lk hcL⟩)
    (fun pre h m m' ⟨x1, D, dv, sv, x2, x3, x4⟩ u => ⟨(u _ (by decide)).trans x1, D, dv, sv, (u _ (by decide)).trans x2, (u _ (by decide)).trans x3, x4⟩) ?_ ?_
  · rintro pre x post s' m' hit hkw hn' ⟨tl, el⟩ ⟨xc, D, dv, sv, xd, xs, hd', hs', hcn', hlen', cc⟩ ⟨h', tk', rfl⟩
    have hpl : pre.length + 1 ≤ n := by
      have := congrArg List.length hit
      rw [List.length_append, List.length_cons, hrl] at this
      omega
    have kwx : Kw [L, ca] s.heap h' := kw21.trans hkw
    have gx' := out kwx
    have cxx := c.up gx'
    obtain ⟨of', fd', hof', hdat'⟩ : ∃ o fd, s.heap.get? 198 = some o ∧ o.data = .func fd := ⟨_, _, c.fn (by k_is), rfl⟩
    obtain ⟨og', gd', hog', hdag'⟩ : ∃ o fd, s.heap.get? 186 = some o ∧ o.data = .func fd := ⟨_, _, c.fn (by k_is), rfl⟩
    -- if not _law_is_listed_right(d, some)
    refine wpAny_execs_cons (wpAny_If (isTrue_not (isTrue_plain (Call_ ((cxx.glob (v := .ref 198) (by k_is) rfl rfl rfl rfl) _ _ _ (stays_refl _) fun fv h22 tk22 k22 hfv => ?_) rfl))))
    cases hfv
    refine callWith_def hdat' ((EvL.two (R1 := IsT IsP D) (R2 := IsL IsP D) ((nmT tstab_p hn' xd hd' rfl).on k22 ⟨rfl, rfl, rfl⟩) ((nmL tstab_p hn' xs hs' rfl).on k22 ⟨rfl, rfl, rfl⟩) (stab_t tstab_p D) (stab_l tstab_p D) rfl) _ _ _ _ (stays_refl _) fun vs h23 tk23 k23 hvs => ⟨k23 _ _ (k22 _ _ (gx' _ _ hof')), ?_⟩) rfl
    obtain ⟨_, _, rfl, e1, e2⟩ := hvs
    have k223 := stays_trans k22 k23
    refine listed_at (s := { s with heap := h23, toks := tk23 }) c (stays_trans gx' k223) gL ((rd _).less (by decide)) (by show A.frames.map _ = _; rw [hfr]; rfl) rfl rfl (hn'.keeps k223) e1 e2 hcn'.ca (hcn'.in (by rw [far_val]; omega)) (by omega) fun h24 tk24 k24 n24 => ?_
    refine wpAny_truthy_bool ?_
    simp only [Bool.not_true, Bool.false_eq_true, if_false]
    refine wpAny_execs_nil ?_
    have k24e : ∀ b o, b ≠ L → h23.get? b = some o → h24.get? b = some o := fun b o hb e => k24 b o (by simpa using hb) e
    have n23 := hn'.keeps k223
    have cc24 : Can w h24 ca ce (899 - 30 * pre.length) := (cc.st k223).kw (W := [L]) k24 (by simpa using hcL) (by simpa using hceL)
    have hd24 : IsT IsP D h24 dv := isT_ns tstab_p (stab_t tstab_p _ _ _ _ k223 hd') n23 k24e
    have hs24 : IsL IsP D h24 sv := isL_ns tstab_p (stab_l tstab_p _ _ _ _ k223 hs') n23 k24e
    have kw24 : Kw [L, ca] h' h24 := fun b o nb e => k24e b o (fun q => nb (by simp [q])) (k223 _ _ e)
    have kws24 : Kw [L, ca] s.heap h24 := kwx.trans kw24
    have g24 := out kws24
    have cx24 := c.up g24
    have w24 : ∀ {h}, Kw [ca] h24 h → h.Ns L m' := fun kw => n24.at' fun o e => kw _ o (by simpa using Ne.symm hcL) e
    have s24 : ∀ {h}, Kw [ca] h24 h → s.heap.StaysIn h := fun kw => kw.stays g24 (by simp [hgc])
    -- d, some = _law_done(can, _law_draw(can, 7), d, some)
    refine wpAny_execs_cons (exec_tupLL (m := m') (rd _).hh (Call_ ((cx24.glob (v := .ref 186) (by k_is) rfl rfl rfl rfl) _ _ _ (stays_refl _) fun fv h25 tk25 k25 hfv => ?_) rfl) rfl rfl rfl (by rfl) (by rfl))
    cases hfv
    refine callWith_def hdag' (EwL.cons (k1 := 0) (k2 := 1) (h₀ := h24) (ca := ca) (ce := ce) (P := fun v => v = .ref ca) (.of (R := IsV (.ref ca)) (fun h kw => (nmV (w24 kw) xc rfl).on (stays_refl _) ⟨rfl, rfl, rfl⟩) fun _ _ e => e) (.cons (k1 := 1) (k2 := 0) (P := InZ 7) (Ew.drawN c g24 hgc ((rd _).less (by decide)) (by decide) n24 xc hcL rfl rfl rfl rfl rfl rfl rfl)
      (.cons (k1 := 0) (k2 := 0) (P := fun v => v = dv) (.of (R := IsV dv) (fun h kw => (nmV (w24 kw) xd rfl).on (stays_refl _) ⟨rfl, rfl, rfl⟩) fun _ _ e => e) (.cons (k1 := 0) (k2 := 0) (P := fun v => v = sv) (.of (R := IsV sv) (fun h kw => (nmV (w24 kw) xs rfl).on (stays_refl _) ⟨rfl, rfl, rfl⟩) fun _ _ e => e) .nil rfl) rfl) rfl) rfl _ (899 - 30 * pre.length - 1) _ _ _ (.of k25) ((cc24.less (by omega)).st k25) fun vs h26 tk26 k26 c26 hvs => ⟨s24 ((Kw.of k25).trans k26) _ _ hog', ?_⟩) rfl
    obtain ⟨_, _, rfl, rfl, _, _, rfl, ⟨wy, tw, rfl, hw0, hw7⟩, _, _, rfl, rfl, _, _, rfl, rfl, rfl⟩ := hvs
    have k2426 : Kw [ca] h24 h26 := (Kw.of k25).trans k26
    refine done_spec (s := { s with heap := h26, toks := tk26 }) (f := 899 - 30 * (pre.length + 1)) (B := B0 + 1000000000000000000000000000000 * (pre.length : Int)) c (s24 k2426) hgc ((rd _).less (by decide)) (c26.less (by omega)) hw0 hw7 (isT_kw tstab_p hd24 k2426 cc24) (isL_kw tstab_p hs24 k2426 cc24) ⟨hcn', by omega, by omega⟩ (by omega) fun v h27 tk27 D' k27 c27 hds hcn27 hl27 => ?_
    obtain ⟨a, v1, v2, rfl, ht, t1, l2⟩ := hds
    have k2427 : Kw [ca] h24 h27 := k2426.trans k27
    have n27 := w24 k2427
    refine ⟨a, v1, v2, rfl, ht, n27, fun h28 tk28 up28 hn28 => wpAny_execs_nil ?_⟩
    have up28 : ∀ b o, b ≠ L → h27.get? b = some o → h28.get? b = some o := up28
    refine ⟨h28, tk28, _, rfl, kw24.trans fun b o nb e => up28 b o (fun q => nb (by simp [q])) (k2427 b o (fun q => nb (by simp at q; simp [q])) e), hn28, upd_ne (m := fun z => if z = Str.ofString "d" then some v1 else m' z) (by decide) (upd_ne (by decide) xc), D', v1, v2, upd_ne (m := fun z => if z = Str.ofString "d" then some v1 else m' z) (by decide) upd_eq, upd_eq, isT_ns tstab_p t1 n27 up28, isL_ns tstab_p l2 n27 up28, ?_, ?_, ?_⟩
    · rw [List.length_append, List.length_singleton]
      exact hcn27.up (by push_cast; omega)
    · rw [List.length_append, List.length_singleton]; omega
    · rw [List.length_append, List.length_singleton]
      exact c27.kw (W := [L]) (fun b o nb e => up28 _ _ (by simpa using nb) e) (by simpa using hcL) (by simpa using hceL)
  · rintro h' tk' m' hkw hn' ⟨xc, D, dv, sv, xd, xs, hd', hs', hcn', hlen', cc⟩
    have kwx : Kw [L, ca] s.heap h' := kw21.trans hkw
    have gx' := out kwx
    have cxx := c.up gx'
    obtain ⟨of', fd', hof', hdat'⟩ : ∃ o fd, s.heap.get? 198 = some o ∧ o.data = .func fd := ⟨_, _, c.fn (by k_is), rfl⟩
    rw [hrl] at hcn' hlen'
    refine wpAny_execs_cons (wpAny_Return_some (Call_ ((cxx.glob (v := .ref 198) (by k_is) rfl rfl rfl rfl) _ _ _ (stays_refl _) fun fv h22 tk22 k22 hfv => ?_) rfl))
    cases hfv
    refine callWith_def hdat' ((EvL.two (R1 := IsT IsP D) (R2 := IsL IsP D) ((nmT tstab_p hn' xd hd' rfl).on k22 ⟨rfl, rfl, rfl⟩) ((nmL tstab_p hn' xs hs' rfl).on k22 ⟨rfl, rfl, rfl⟩) (stab_t tstab_p D) (stab_l tstab_p D) rfl) _ _ _ _ (stays_refl _) fun vs h23 tk23 k23 hvs => ⟨k23 _ _ (k22 _ _ (gx' _ _ hof')), ?_⟩) rfl
    obtain ⟨_, _, rfl, e1, e2⟩ := hvs
    have k223 := stays_trans k22 k23
    refine listed_at (s := { s with heap := h23, toks := tk23 }) c (stays_trans gx' k223) gL ((rd _).less (by decide)) (by show A.frames.map _ = _; rw [hfr]; rfl) rfl rfl (hn'.keeps k223) e1 e2 hcn'.ca (hcn'.in (by rw [far_val]; omega)) (by omega) fun h24 tk24 k24 n24 => ?_
    exact k h24 tk24 (out ((kwx.trans (.of k223)).trans fun b o nb e => k24 b o (fun q => nb (by simp at q; simp [q])) e))
end Mine
end
open PySem PySem.W PyProof.Rows PySem.Calls
set_option maxRecDepth 100000 in
set_option maxHeartbeats 8000000 in
theorem PySem.Challenge.cw_qd0006_01_holds : PySem.Challenge.rw_qd0006_01.Holds := by
  refine Mine.hd ?_
  k_fill
  intro w s₀ s₁ mg mb G Y fa o pm cd doc dV kV ho hd hcd hD hmg hg args vals as hpre hlay hrd hwl hlo
  have KX := kIn_of Y
  refine Ground.open G ?_
  intro T B D TE TW
  wrow_args hpre hlay hrd hwl hlo
  clear hd ho hcd hD
  rename IntsAre _ _ => hI
  rename Heap.IsList _ _ _ => hL
  rename ¬ (_ < _) => hc
  have c : Mine.Cx w (ExcName.means s₀.heap) mg mb s₁.heap := ⟨KX, T⟩
  have e205 : mg "law" = some (.ref 205) := mg_of c.X c.T.g (by k_is)
  obtain rfl : fa = 205 := by
    have h2 : mg "law" = some (.ref fa) := hmg
    rw [e205] at h2; cases h2; rfl
  refine Mine.law_spec c ⟨rfl, by decide, by decide⟩ rfl ⟨_, _, rfl, hL, Mine.ints_all2 hI⟩ (by omega) fun h' tk hk => ?_
  refine GoodW.toG ⟨.inl ⟨.bool true, .bool true, [], rfl, ?_, .bool true, ?_, unshared_nil⟩, hk, rfl, hg⟩
  · refine raisesW_false ?_
    wrow_none_raised
  · wrow_post

