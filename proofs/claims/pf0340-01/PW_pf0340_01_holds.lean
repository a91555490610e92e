import PyProof.Rows.All
import Wide.All
import OpenK.AllK
import Wide.FinOn
import Lean
import PySem.Challenge.RW_pf0340_01
open PySem PySem.W PyProof.Rows PySem.Spec PySem.Calls
set_option Elab.async false
set_option maxRecDepth 100000
set_option maxHeartbeats 8000000
set_option linter.unusedVariables false
namespace Mine
local macro_rules | `(tactic| walk_at $s:str) => do
  let t := Lean.Syntax.mkStrLit ("my:" ++ s.getString)
  `(tactic| k_extra $t)
theorem part_00 : True := by
  w_top off
  trivial
/-! ## the head: the top checked once, whole (the library's pieces make the compiled file too large) -/
/-- the text without the rows that name its files -/
noncomputable def vw : Program := view PySem.Challenge.rw_pf0340_01.row.prog [1, 2, 3, 5, 6, 8, 9, 10, 11, 12, 13, 14, 15, 16, 18, 19, 20, 21, 22, 23, 24, 25, 26, 27, 28, 29, 30, 31, 32, 33, 34]
/-- the library's head with a hook -/
theorem head_open {r : OpenRow} {q : Program} {d : DefRec} {kwd : List (Str × PySem.Expr)} {N : Nat} (H : Hook)
    (hl : LeftO r.prog q [] (fun s => xlAt q [] s && recOk (RowW.records (OpenRow.toRowW r)) s) (Hook.obs H) (Hook.val H) N)
    (hd : defOf q r.name = some (d, kwd)) (hp : r.prog.theDef r.name = some (d.params, d.body, d.scope)) (hk : kwWritten? d.params.kwonlyargs d.params.kw_defaults = some kwd) (hwr : (!r.writes || r.records.isEmpty) = true)
    (k1 : r.wellSaid = true) (ok : (chainsOk q && opensWell r.prog && (frees r.toRowW && r.within.isEmpty)) = true) (hb : r.prog.bare) (hw : r.toRowW.promised)
    (hc : WalkO q [] (XL q []) (Hook.says H) r.toRowW d kwd fun f vs => PySem.call f vs) : r.Holds :=
  holds_open hl (Hook.of H) (Hook.keeps H) (fun s e => xl_of s (Bool.and_eq_true_iff.mp e).1) XL.keeps hd hp hk (fun s e => recFacts_of (Bool.and_eq_true_iff.mp e).2) hwr k1 ok hb hw hc
local macro_rules | `(tactic| o_head $H) => `(tactic| (refine' head_open (q := vw) (N := 3716) $H ?hl ?hd ?hp ?hk ?hwr ?k1 ?ok ?hb ?hw ?hc; k_extra "my:#head"))
theorem said_head : True := by
  k_with "my:#head" => (case hl => intro w; kernel_rfl); (case hd => rfl); (case hp => rfl); (case hk => rfl); (case hwr => rfl); (case k1 => first | assumption | decide +kernel); (case ok => decide +kernel); (case hb => exact ⟨rfl, rfl, rfl, rfl, rfl, by decide +kernel⟩)
  k_with "my:#law" => refine holds_law wellSaid fun said => ?_
  trivial
/-- the law is well said: each part by the kernel (the library's line leaves a twin of the program in the compiled file) -/
theorem wellSaid : PySem.Challenge.rw_pf0340_01.wellSaid = true := by
  unfold OpenLaw.wellSaid
  simp only [Bool.and_eq_true]
  repeat' refine And.intro ?_ ?_
  case _ =>
    unfold OpenRow.wellSaid OpenRow.partSaid looksOpen
    simp only [Bool.and_eq_true]
    repeat' refine And.intro ?_ ?_
    all_goals (first | decide +kernel | kernel_rfl)
  all_goals (first | decide +kernel | kernel_rfl)
local macro_rules | `(tactic| o_law) => `(tactic| k_extra "my:#law")
open_top hd for PySem.Challenge.rw_pf0340_01

theorem part_01 : True := by
  w_top off
  trivial
/-- a proof may be handed in as a side condition (Lean keeps no trace of its steps then) -/
def HeldQ (P : Prop) : Prop := P
theorem heldQ_eq {P : Prop} (h : P) : HeldQ P = True := eq_true h
theorem of_heldQ {P : Prop} (h : HeldQ P) : P := h
theorem anchorQ {P : Prop} (h : P) : P := h

/-- what a call of the def at f gives, from any frame, where it does not raise: a value and new objects `tl`, as R says -/
def Called (w : World) (f : Addr) (d u : Nat) (args : List Value) (news : List (Addr × Obj)) (Pb : Heap → Prop) (R : Value → List (Addr × Obj) → Prop) : Prop :=
  ∀ (mean : ExcName → Option Value) (mg mb : Str → Option Value) (dp un : Nat) (gd : Option (List Code)) (cn : Str) (cs : Scope) (a : Addr) (ccd : Value) (cl : List (Str × Addr)) (outer : List Env) (A₀ : Around)
    (base h₀ : Heap) (L : Addr) (m : Str → Option Value) (s : Shared) (Q E : Value → Shared → Prop),
    Below A₀ base outer h₀ → Fr h₀ L s.heap m → (hd.heap_1 w.params).In h₀ → News h₀ L s.heap news → Top vw (looseW vw []) mean mg mb h₀ → cs.kind = .function → Pb base →
    dp + d < recursionLimit → un + u < cLine →
    (∀ v tl h' tk', Fr h₀ L h' m → News h₀ L h' (tl ++ news) → R v tl → Q v { s with heap := h', toks := tk' }) →
    wpAny (model PySem.Challenge.rw_pf0340_01.row.prog w) (ktrTop dp un gd cn cs L a ccd cl outer) (call (.ref f) args) Q E s

theorem Called.use {w : World} {f : Addr} {d u : Nat} {args : List Value} {news : List (Addr × Obj)} {Pb : Heap → Prop} {R : Value → List (Addr × Obj) → Prop}
    {mean : ExcName → Option Value} {mg mb : Str → Option Value} {dp un : Nat} {gd : Option (List Code)} {cn : Str} {cs : Scope} {a : Addr} {ccd : Value} {cl : List (Str × Addr)} {outer : List Env} {A₀ : Around}
    {base h₀ : Heap} {L : Addr} {m : Str → Option Value} {s : Shared} {Q E : Value → Shared → Prop} (B : Below A₀ base outer h₀) (F : Fr h₀ L s.heap m) (X : (hd.heap_1 w.params).In h₀) (N : News h₀ L s.heap news)
    (T : Top vw (looseW vw []) mean mg mb h₀) (hk : cs.kind = .function) (c : Called w f d u args news Pb R) (hb : Pb base) (hd : dp + d < recursionLimit) (hu : un + u < cLine)
    (ret : ∀ v tl h' tk', Fr h₀ L h' m → News h₀ L h' (tl ++ news) → R v tl → Q v { s with heap := h', toks := tk' }) :
    wpAny (model PySem.Challenge.rw_pf0340_01.row.prog w) (ktrTop dp un gd cn cs L a ccd cl outer) (call (.ref f) args) Q E s := c _ _ _ _ _ _ _ _ _ _ _ _ _ _ _ _ _ _ _ _ B F X N T hk hb hd hu ret

/-- an int, nothing new -/
def IsInt (x : Int) : Value → List (Addr × Obj) → Prop := fun v tl => (∃ t, v = .int x t) ∧ tl = []
theorem IsInt.of {x y : Int} {t : Tok} (e : y = x) : IsInt x (.int y t) [] := ⟨⟨t, by rw [e]⟩, rfl⟩

theorem val_int {o : Option Value} {x y : Int} {t : Tok} (h : o = some (.int x t)) (e : x = y) : ∃ t, o = some (.int y t) := ⟨t, by rw [h, e]⟩

theorem ret0 {h₀ : Heap} {L : Addr} {m : Str → Option Value} {news news' : List (Addr × Obj)} {s : Shared} {Q : Value → Shared → Prop} {R : Value → List (Addr × Obj) → Prop} {v : Value} {h' : Heap} {tk' : Nat}
    (hret : ∀ v tl h' tk', Fr h₀ L h' m → News h₀ L h' (tl ++ news) → R v tl → Q v { s with heap := h', toks := tk' }) (F : Fr h₀ L h' m) (N : News h₀ L h' news') (hs : ∀ p ∈ news, p ∈ news') (r : R v []) : Q v { s with heap := h', toks := tk' } :=
  hret v [] h' tk' F (cb_drop N hs) r

/-- a new list of ints, above all that was -/
def IsInts (ns : List Int) (news : List (Addr × Obj)) : Value → List (Addr × Obj) → Prop :=
  fun v tl => ∃ l vs n, v = .ref l ∧ tl = [(l, PySem.W.listOf vs.toArray n)] ∧ IntsAre vs ns ∧ ∀ p ∈ news, p.1 < l
theorem all_ne {news : List (Addr × Obj)} {d : Addr} (h : ∀ p ∈ news, p.1 < d) : ∀ p ∈ news, p.1 ≠ d := fun p hp => Nat.ne_of_lt (h p hp)
theorem retInts {h₀ : Heap} {L : Addr} {m : Str → Option Value} {news news' : List (Addr × Obj)} {s : Shared} {Q : Value → Shared → Prop} {ns : List Int} {l : Addr} {vs : List Value} {n : Nat} {h' : Heap} {tk' : Nat}
    (hret : ∀ v tl h' tk', Fr h₀ L h' m → News h₀ L h' (tl ++ news) → IsInts ns news v tl → Q v { s with heap := h', toks := tk' }) (F : Fr h₀ L h' m) (N : News h₀ L h' news') (hl : (l, PySem.W.listOf vs.toArray n) ∈ news') (hs : ∀ p ∈ news, p ∈ news')
    (hi : IntsAre vs ns) (hlt : ∀ p ∈ news, p.1 < l) : Q (.ref l) { s with heap := h', toks := tk' } :=
  hret _ [(l, PySem.W.listOf vs.toArray n)] h' tk' F (cb_drop N fun p hp => (List.mem_cons.mp hp).elim (fun e => e ▸ hl) (hs p)) ⟨l, vs, n, rfl, rfl, hi, hlt⟩

section
variable {w : World} {f : Addr} {d u : Nat} {args : List Value} {news : List (Addr × Obj)} {Pb : Heap → Prop}
    {mean : ExcName → Option Value} {mg mb : Str → Option Value} {dp un : Nat} {gd : Option (List Code)} {cn : Str} {cs : Scope} {a : Addr} {ccd : Value} {cl : List (Str × Addr)} {outer : List Env} {A₀ : Around}
    {base h₀ : Heap} {L : Addr} {m : Str → Option Value} {hp : Heap} {gn : Array GenState} {dr : Drawn} {tz : Nat} {os : OsState} {Q E : Value → Shared → Prop}
/-- what an int was given back -/
theorem Called.useI {x : Int} (B : Below A₀ base outer h₀) (F : Fr h₀ L hp m) (X : (hd.heap_1 w.params).In h₀) (N : News h₀ L hp news) (T : Top vw (looseW vw []) mean mg mb h₀) (hk : cs.kind = .function) (c : Called w f d u args news Pb (IsInt x)) (hb : Pb base) (hd : dp + d < recursionLimit) (hu : un + u < cLine)
    (ret : ∀ t h' tk', Fr h₀ L h' m → News h₀ L h' news → Q (.int x t) ⟨h', gn, dr, tk', os⟩) :
    wpAny (model PySem.Challenge.rw_pf0340_01.row.prog w) (ktrTop dp un gd cn cs L a ccd cl outer) (call (.ref f) args) Q E ⟨hp, gn, dr, tz, os⟩ :=
  c.use B F X N T hk hb hd hu fun _ _ h' tk' F' N' ⟨⟨t, e1⟩, e2⟩ => by subst e1 e2; exact ret t h' tk' F' N'
/-- a new list of ints was given back -/
theorem Called.useS {ns : List Int} (B : Below A₀ base outer h₀) (F : Fr h₀ L hp m) (X : (hd.heap_1 w.params).In h₀) (N : News h₀ L hp news) (T : Top vw (looseW vw []) mean mg mb h₀) (hk : cs.kind = .function) (c : Called w f d u args news Pb (IsInts ns news)) (hb : Pb base) (hd : dp + d < recursionLimit) (hu : un + u < cLine)
    (ret : ∀ l vs n h' tk', Fr h₀ L h' m → News h₀ L h' ((l, PySem.W.listOf vs.toArray n) :: news) → IntsAre vs ns → (∀ p ∈ news, p.1 < l) → Q (.ref l) ⟨h', gn, dr, tk', os⟩) :
    wpAny (model PySem.Challenge.rw_pf0340_01.row.prog w) (ktrTop dp un gd cn cs L a ccd cl outer) (call (.ref f) args) Q E ⟨hp, gn, dr, tz, os⟩ :=
  c.use B F X N T hk hb hd hu fun _ _ h' tk' F' N' ⟨l, vs, n, e1, e2, i, lt⟩ => by subst e1 e2; exact ret l vs n h' tk' F' N' i lt
end
/-! ## fused steps: plain int expressions and plain arguments -/
section
variable {prog : Program} {w : World} {A : Around} {E : Value → Shared → Prop} {s : Shared} {h₀ : Heap} {L a : Addr} {m : Str → Option Value} {cn : Str} {cs : Scope} {ccd : Value} {cl : List (Str × Addr)}
/-- a plain int expression over the local names -/
inductive IntE (m : Str → Option Value) (env : Env) : PySem.Expr → Int → Prop
  | name {x : Str} {p : Pos} {v : Int} {t : Tok} : m x = some (.int v t) → env.kindOf x = some .local → (x == ("__debug__" : Str)) = false → IntE m env (.Name x p) v
  | const {k : Int} {kd} {p : Pos} : IntE m env (.Constant (.int k) kd p) k
  | add {l r : PySem.Expr} {x y : Int} {p : Pos} : IntE m env l x → IntE m env r y → IntE m env (.BinOp l .Add r p) (x + y)
  | sub {l r : PySem.Expr} {x y : Int} {p : Pos} : IntE m env l x → IntE m env r y → IntE m env (.BinOp l .Sub r p) (x - y)
  | mul {l r : PySem.Expr} {x y : Int} {p : Pos} : IntE m env l x → IntE m env r y → IntMulOk x y → IntE m env (.BinOp l .Mult r p) (x * y)
  | mod {l r : PySem.Expr} {x y : Int} {p : Pos} : IntE m env l x → IntE m env r y → y ≠ 0 → IntE m env (.BinOp l .Mod r p) (x.fmod y)
  | fdiv {l r : PySem.Expr} {x y : Int} {p : Pos} : IntE m env l x → IntE m env r y → y ≠ 0 → Builtin.divisionGoesByPylong x y = false → IntE m env (.BinOp l .FloorDiv r p) (x.fdiv y)
  | pow {n v : Int} {kd kd'} {p p' p'' : Pos} : 0 ≤ n → n ≤ 1000000 → (2 : Int) ^ n.toNat = v → IntE m env (.BinOp (.Constant (.int 2) kd p) .Pow (.Constant (.int n) kd' p') p'') v
theorem int_eval {e : PySem.Expr} {v : Int} (d : IntE m (envX cn cs L a ccd cl) e v) (hk : cs.kind = .function) : ∀ {s : Shared} {Q : Value → Shared → Prop}, Fr h₀ L s.heap m → (∀ t k, Q (.int v t) { s with toks := k }) → wpAny (model prog w) A (eval e (envX cn cs L a ccd cl)) Q E s := by
  induction d with
  | name hv hx hd => exact fun F h => nameX_L F hv (h _ _) hk hx hd
  | const => exact fun F h => wpAny_Constant_int (h _ _)
  | add _ _ ih1 ih2 => exact fun F h => wpAny_BinOp (ih1 F fun t k => ih2 F fun t' k' => add_int (h _ _))
  | sub _ _ ih1 ih2 => exact fun F h => wpAny_BinOp (ih1 F fun t k => ih2 F fun t' k' => sub_int (h _ _))
  | mul _ _ hm ih1 ih2 => exact fun F h => wpAny_BinOp (ih1 F fun t k => ih2 F fun t' k' => mul_int (h _ _) hm)
  | mod _ _ hm ih1 ih2 => exact fun F h => wpAny_BinOp (ih1 F fun t k => ih2 F fun t' k' => mod_int' hm (h _ _))
  | fdiv _ _ hm hp ih1 ih2 => exact fun F h => wpAny_BinOp (ih1 F fun t k => ih2 F fun t' k' => floordiv_int hm (h _ _) (Or.inl hp))
  | pow h1 h2 h3 => exact fun F h => wpAny_BinOp (wpAny_Constant_int (wpAny_Constant_int (pow_int_small h1 h2 (by decide) (by rw [h3]; exact h _ _))))
/-- a plain argument: a local name, or a plain int expression -/
inductive ArgE (m : Str → Option Value) (env : Env) : PySem.Expr → (Tok → Value) → Prop
  | any {x : Str} {p : Pos} {v : Value} : m x = some v → env.kindOf x = some .local → (x == ("__debug__" : Str)) = false → ArgE m env (.Name x p) fun _ => v
  | int {e : PySem.Expr} {v : Int} : IntE m env e v → ArgE m env e fun t => .int v t
theorem arg_eval {e : PySem.Expr} {f : Tok → Value} (d : ArgE m (envX cn cs L a ccd cl) e f) (hk : cs.kind = .function) {Q : Value → Shared → Prop} (F : Fr h₀ L s.heap m) (h : ∀ t k, Q (f t) { s with toks := k }) : wpAny (model prog w) A (eval e (envX cn cs L a ccd cl)) Q E s := by
  cases d with
  | any hv hx hd => exact nameX_L F hv (h 0 _) hk hx hd
  | int d => exact int_eval d hk F h
theorem star_of {env : Env} {e : PySem.Expr} {f : Tok → Value} {rest : List PySem.Expr} (d : ArgE m env e f) : starEach (e :: rest) env = (false, eval e env) :: starEach rest env := by
  cases d with
  | any => rfl
  | int d => cases d <;> rfl
theorem plain_of {env : Env} {e : PySem.Expr} {f : Tok → Value} {rest : List PySem.Expr} {pos : Pos} (d : ArgE m env e f) (h : (backTo pos (starEach rest env)).any (·.1) = false) : (backTo pos (starEach (e :: rest) env)).any (·.1) = false := by
  rw [star_of d]; exact h
theorem args0 {env : Env} {pos : Pos} {Q : List Value → Shared → Prop} (h : Q [] s) : wpAny (model prog w) A (spliced (backTo pos (starEach [] env))) Q E s := spliced_none h
theorem argsC {e : PySem.Expr} {f : Tok → Value} {rest : List PySem.Expr} {pos : Pos} {Q : List Value → Shared → Prop} (d : ArgE m (envX cn cs L a ccd cl) e f) (hk : cs.kind = .function) (F : Fr h₀ L s.heap m)
    (h : ∀ t k, wpAny (model prog w) A (spliced (backTo pos (starEach rest (envX cn cs L a ccd cl)))) (fun vs s₂ => Q (f t :: vs) s₂) E { s with toks := k }) : wpAny (model prog w) A (spliced (backTo pos (starEach (e :: rest) (envX cn cs L a ccd cl)))) Q E s :=
  spliced_more (arg_eval d hk F h) (star_of d)
theorem int_evalS {hp : Heap} {gn : Array GenState} {dr : Drawn} {tz : Nat} {os : OsState} {e : PySem.Expr} {v : Int} (d : IntE m (envX cn cs L a ccd cl) e v) (hk : cs.kind = .function) {Q : Value → Shared → Prop} (F : Fr h₀ L hp m) (h : ∀ t k, Q (.int v t) ⟨hp, gn, dr, k, os⟩) : wpAny (model prog w) A (eval e (envX cn cs L a ccd cl)) Q E ⟨hp, gn, dr, tz, os⟩ := int_eval d hk F h
theorem args1 {hp : Heap} {gn : Array GenState} {dr : Drawn} {tz : Nat} {os : OsState} {e1 : PySem.Expr} {f1 : Tok → Value} {pos : Pos} {Q : List Value → Shared → Prop} (F : Fr h₀ L hp m) (d1 : ArgE m (envX cn cs L a ccd cl) e1 f1) (hk : cs.kind = .function)
    (h : ∀ t1 k, Q [f1 t1] ⟨hp, gn, dr, k, os⟩) : wpAny (model prog w) A (spliced (backTo pos (starEach [e1] (envX cn cs L a ccd cl)))) Q E ⟨hp, gn, dr, tz, os⟩ :=
  argsC d1 hk F fun t1 _ => args0 (h t1 _)
theorem args2 {hp : Heap} {gn : Array GenState} {dr : Drawn} {tz : Nat} {os : OsState} {e1 e2 : PySem.Expr} {f1 f2 : Tok → Value} {pos : Pos} {Q : List Value → Shared → Prop} (F : Fr h₀ L hp m) (d1 : ArgE m (envX cn cs L a ccd cl) e1 f1) (d2 : ArgE m (envX cn cs L a ccd cl) e2 f2) (hk : cs.kind = .function)
    (h : ∀ t1 t2 k, Q [f1 t1, f2 t2] ⟨hp, gn, dr, k, os⟩) : wpAny (model prog w) A (spliced (backTo pos (starEach [e1, e2] (envX cn cs L a ccd cl)))) Q E ⟨hp, gn, dr, tz, os⟩ :=
  argsC d1 hk F fun t1 _ => argsC d2 hk F fun t2 _ => args0 (h t1 t2 _)
theorem args3 {hp : Heap} {gn : Array GenState} {dr : Drawn} {tz : Nat} {os : OsState} {e1 e2 e3 : PySem.Expr} {f1 f2 f3 : Tok → Value} {pos : Pos} {Q : List Value → Shared → Prop} (F : Fr h₀ L hp m) (d1 : ArgE m (envX cn cs L a ccd cl) e1 f1) (d2 : ArgE m (envX cn cs L a ccd cl) e2 f2) (d3 : ArgE m (envX cn cs L a ccd cl) e3 f3) (hk : cs.kind = .function)
    (h : ∀ t1 t2 t3 k, Q [f1 t1, f2 t2, f3 t3] ⟨hp, gn, dr, k, os⟩) : wpAny (model prog w) A (spliced (backTo pos (starEach [e1, e2, e3] (envX cn cs L a ccd cl)))) Q E ⟨hp, gn, dr, tz, os⟩ :=
  argsC d1 hk F fun t1 _ => argsC d2 hk F fun t2 _ => argsC d3 hk F fun t3 _ => args0 (h t1 t2 t3 _)
theorem args4 {hp : Heap} {gn : Array GenState} {dr : Drawn} {tz : Nat} {os : OsState} {e1 e2 e3 e4 : PySem.Expr} {f1 f2 f3 f4 : Tok → Value} {pos : Pos} {Q : List Value → Shared → Prop} (F : Fr h₀ L hp m) (d1 : ArgE m (envX cn cs L a ccd cl) e1 f1) (d2 : ArgE m (envX cn cs L a ccd cl) e2 f2) (d3 : ArgE m (envX cn cs L a ccd cl) e3 f3) (d4 : ArgE m (envX cn cs L a ccd cl) e4 f4) (hk : cs.kind = .function)
    (h : ∀ t1 t2 t3 t4 k, Q [f1 t1, f2 t2, f3 t3, f4 t4] ⟨hp, gn, dr, k, os⟩) : wpAny (model prog w) A (spliced (backTo pos (starEach [e1, e2, e3, e4] (envX cn cs L a ccd cl)))) Q E ⟨hp, gn, dr, tz, os⟩ :=
  argsC d1 hk F fun t1 _ => argsC d2 hk F fun t2 _ => argsC d3 hk F fun t3 _ => argsC d4 hk F fun t4 _ => args0 (h t1 t2 t3 t4 _)
theorem args5 {hp : Heap} {gn : Array GenState} {dr : Drawn} {tz : Nat} {os : OsState} {e1 e2 e3 e4 e5 : PySem.Expr} {f1 f2 f3 f4 f5 : Tok → Value} {pos : Pos} {Q : List Value → Shared → Prop} (F : Fr h₀ L hp m) (d1 : ArgE m (envX cn cs L a ccd cl) e1 f1) (d2 : ArgE m (envX cn cs L a ccd cl) e2 f2) (d3 : ArgE m (envX cn cs L a ccd cl) e3 f3) (d4 : ArgE m (envX cn cs L a ccd cl) e4 f4) (d5 : ArgE m (envX cn cs L a ccd cl) e5 f5) (hk : cs.kind = .function)
    (h : ∀ t1 t2 t3 t4 t5 k, Q [f1 t1, f2 t2, f3 t3, f4 t4, f5 t5] ⟨hp, gn, dr, k, os⟩) : wpAny (model prog w) A (spliced (backTo pos (starEach [e1, e2, e3, e4, e5] (envX cn cs L a ccd cl)))) Q E ⟨hp, gn, dr, tz, os⟩ :=
  argsC d1 hk F fun t1 _ => argsC d2 hk F fun t2 _ => argsC d3 hk F fun t3 _ => argsC d4 hk F fun t4 _ => argsC d5 hk F fun t5 _ => args0 (h t1 t2 t3 t4 t5 _)
theorem args6 {hp : Heap} {gn : Array GenState} {dr : Drawn} {tz : Nat} {os : OsState} {e1 e2 e3 e4 e5 e6 : PySem.Expr} {f1 f2 f3 f4 f5 f6 : Tok → Value} {pos : Pos} {Q : List Value → Shared → Prop} (F : Fr h₀ L hp m) (d1 : ArgE m (envX cn cs L a ccd cl) e1 f1) (d2 : ArgE m (envX cn cs L a ccd cl) e2 f2) (d3 : ArgE m (envX cn cs L a ccd cl) e3 f3) (d4 : ArgE m (envX cn cs L a ccd cl) e4 f4) (d5 : ArgE m (envX cn cs L a ccd cl) e5 f5) (d6 : ArgE m (envX cn cs L a ccd cl) e6 f6) (hk : cs.kind = .function)
    (h : ∀ t1 t2 t3 t4 t5 t6 k, Q [f1 t1, f2 t2, f3 t3, f4 t4, f5 t5, f6 t6] ⟨hp, gn, dr, k, os⟩) : wpAny (model prog w) A (spliced (backTo pos (starEach [e1, e2, e3, e4, e5, e6] (envX cn cs L a ccd cl)))) Q E ⟨hp, gn, dr, tz, os⟩ :=
  argsC d1 hk F fun t1 _ => argsC d2 hk F fun t2 _ => argsC d3 hk F fun t3 _ => argsC d4 hk F fun t4 _ => argsC d5 hk F fun t5 _ => argsC d6 hk F fun t6 _ => args0 (h t1 t2 t3 t4 t5 t6 _)
theorem args7 {hp : Heap} {gn : Array GenState} {dr : Drawn} {tz : Nat} {os : OsState} {e1 e2 e3 e4 e5 e6 e7 : PySem.Expr} {f1 f2 f3 f4 f5 f6 f7 : Tok → Value} {pos : Pos} {Q : List Value → Shared → Prop} (F : Fr h₀ L hp m) (d1 : ArgE m (envX cn cs L a ccd cl) e1 f1) (d2 : ArgE m (envX cn cs L a ccd cl) e2 f2) (d3 : ArgE m (envX cn cs L a ccd cl) e3 f3) (d4 : ArgE m (envX cn cs L a ccd cl) e4 f4) (d5 : ArgE m (envX cn cs L a ccd cl) e5 f5) (d6 : ArgE m (envX cn cs L a ccd cl) e6 f6) (d7 : ArgE m (envX cn cs L a ccd cl) e7 f7) (hk : cs.kind = .function)
    (h : ∀ t1 t2 t3 t4 t5 t6 t7 k, Q [f1 t1, f2 t2, f3 t3, f4 t4, f5 t5, f6 t6, f7 t7] ⟨hp, gn, dr, k, os⟩) : wpAny (model prog w) A (spliced (backTo pos (starEach [e1, e2, e3, e4, e5, e6, e7] (envX cn cs L a ccd cl)))) Q E ⟨hp, gn, dr, tz, os⟩ :=
  argsC d1 hk F fun t1 _ => argsC d2 hk F fun t2 _ => argsC d3 hk F fun t3 _ => argsC d4 hk F fun t4 _ => argsC d5 hk F fun t5 _ => argsC d6 hk F fun t6 _ => argsC d7 hk F fun t7 _ => args0 (h t1 t2 t3 t4 t5 t6 t7 _)
theorem args8 {hp : Heap} {gn : Array GenState} {dr : Drawn} {tz : Nat} {os : OsState} {e1 e2 e3 e4 e5 e6 e7 e8 : PySem.Expr} {f1 f2 f3 f4 f5 f6 f7 f8 : Tok → Value} {pos : Pos} {Q : List Value → Shared → Prop} (F : Fr h₀ L hp m) (d1 : ArgE m (envX cn cs L a ccd cl) e1 f1) (d2 : ArgE m (envX cn cs L a ccd cl) e2 f2) (d3 : ArgE m (envX cn cs L a ccd cl) e3 f3) (d4 : ArgE m (envX cn cs L a ccd cl) e4 f4) (d5 : ArgE m (envX cn cs L a ccd cl) e5 f5) (d6 : ArgE m (envX cn cs L a ccd cl) e6 f6) (d7 : ArgE m (envX cn cs L a ccd cl) e7 f7) (d8 : ArgE m (envX cn cs L a ccd cl) e8 f8) (hk : cs.kind = .function)
    (h : ∀ t1 t2 t3 t4 t5 t6 t7 t8 k, Q [f1 t1, f2 t2, f3 t3, f4 t4, f5 t5, f6 t6, f7 t7, f8 t8] ⟨hp, gn, dr, k, os⟩) : wpAny (model prog w) A (spliced (backTo pos (starEach [e1, e2, e3, e4, e5, e6, e7, e8] (envX cn cs L a ccd cl)))) Q E ⟨hp, gn, dr, tz, os⟩ :=
  argsC d1 hk F fun t1 _ => argsC d2 hk F fun t2 _ => argsC d3 hk F fun t3 _ => argsC d4 hk F fun t4 _ => argsC d5 hk F fun t5 _ => argsC d6 hk F fun t6 _ => argsC d7 hk F fun t7 _ => argsC d8 hk F fun t8 _ => args0 (h t1 t2 t3 t4 t5 t6 t7 t8 _)
theorem call1 {hp : Heap} {gn : Array GenState} {dr : Drawn} {tz : Nat} {os : OsState} {K : Frag} {p : Program} {loose : List Str} {mg mb : Str → Option Value} {x : Str} {f : Addr} {np pos : Pos} {e1 : PySem.Expr} {f1 : Tok → Value} {Q : Value → Shared → Prop} (F : Fr h₀ L hp m) (X : K.In h₀) (T : TopRead p loose mg mb h₀) (e : nsIn K mainGlobals x = some (some (.ref f))) (q : keepIn K (.ref f) = true) (d1 : ArgE m (envX cn cs L a ccd cl) e1 f1) (hk : cs.kind = .function) (hx : (envX cn cs L a ccd cl).kindOf x = some .globalImplicit) (hb : (x == ("__debug__" : Str)) = false)
    (h : ∀ t1 k, wpAny (model prog w) A (call (.ref f) [f1 t1]) Q E ⟨hp, gn, dr, k, os⟩) : wpAny (model prog w) A (eval (.Call (.Name x np) [e1] [] pos) (envX cn cs L a ccd cl)) Q E ⟨hp, gn, dr, tz, os⟩ :=
  Call_ (nameX_K F X T e (callWith_K X q (args1 F d1 hk fun t1 k => ⟨X.keeps F.keep, h t1 k⟩) (star_of d1) rfl) hk hx hb)
theorem call2 {hp : Heap} {gn : Array GenState} {dr : Drawn} {tz : Nat} {os : OsState} {K : Frag} {p : Program} {loose : List Str} {mg mb : Str → Option Value} {x : Str} {f : Addr} {np pos : Pos} {e1 e2 : PySem.Expr} {f1 f2 : Tok → Value} {Q : Value → Shared → Prop} (F : Fr h₀ L hp m) (X : K.In h₀) (T : TopRead p loose mg mb h₀) (e : nsIn K mainGlobals x = some (some (.ref f))) (q : keepIn K (.ref f) = true) (d1 : ArgE m (envX cn cs L a ccd cl) e1 f1) (d2 : ArgE m (envX cn cs L a ccd cl) e2 f2) (hk : cs.kind = .function) (hx : (envX cn cs L a ccd cl).kindOf x = some .globalImplicit) (hb : (x == ("__debug__" : Str)) = false)
    (h : ∀ t1 t2 k, wpAny (model prog w) A (call (.ref f) [f1 t1, f2 t2]) Q E ⟨hp, gn, dr, k, os⟩) : wpAny (model prog w) A (eval (.Call (.Name x np) [e1, e2] [] pos) (envX cn cs L a ccd cl)) Q E ⟨hp, gn, dr, tz, os⟩ :=
  Call_ (nameX_K F X T e (callWith_K X q (args2 F d1 d2 hk fun t1 t2 k => ⟨X.keeps F.keep, h t1 t2 k⟩) (star_of d1) (plain_of d2 rfl)) hk hx hb)
theorem call3 {hp : Heap} {gn : Array GenState} {dr : Drawn} {tz : Nat} {os : OsState} {K : Frag} {p : Program} {loose : List Str} {mg mb : Str → Option Value} {x : Str} {f : Addr} {np pos : Pos} {e1 e2 e3 : PySem.Expr} {f1 f2 f3 : Tok → Value} {Q : Value → Shared → Prop} (F : Fr h₀ L hp m) (X : K.In h₀) (T : TopRead p loose mg mb h₀) (e : nsIn K mainGlobals x = some (some (.ref f))) (q : keepIn K (.ref f) = true) (d1 : ArgE m (envX cn cs L a ccd cl) e1 f1) (d2 : ArgE m (envX cn cs L a ccd cl) e2 f2) (d3 : ArgE m (envX cn cs L a ccd cl) e3 f3) (hk : cs.kind = .function) (hx : (envX cn cs L a ccd cl).kindOf x = some .globalImplicit) (hb : (x == ("__debug__" : Str)) = false)
    (h : ∀ t1 t2 t3 k, wpAny (model prog w) A (call (.ref f) [f1 t1, f2 t2, f3 t3]) Q E ⟨hp, gn, dr, k, os⟩) : wpAny (model prog w) A (eval (.Call (.Name x np) [e1, e2, e3] [] pos) (envX cn cs L a ccd cl)) Q E ⟨hp, gn, dr, tz, os⟩ :=
  Call_ (nameX_K F X T e (callWith_K X q (args3 F d1 d2 d3 hk fun t1 t2 t3 k => ⟨X.keeps F.keep, h t1 t2 t3 k⟩) (star_of d1) (plain_of d2 (plain_of d3 rfl))) hk hx hb)
theorem call4 {hp : Heap} {gn : Array GenState} {dr : Drawn} {tz : Nat} {os : OsState} {K : Frag} {p : Program} {loose : List Str} {mg mb : Str → Option Value} {x : Str} {f : Addr} {np pos : Pos} {e1 e2 e3 e4 : PySem.Expr} {f1 f2 f3 f4 : Tok → Value} {Q : Value → Shared → Prop} (F : Fr h₀ L hp m) (X : K.In h₀) (T : TopRead p loose mg mb h₀) (e : nsIn K mainGlobals x = some (some (.ref f))) (q : keepIn K (.ref f) = true) (d1 : ArgE m (envX cn cs L a ccd cl) e1 f1) (d2 : ArgE m (envX cn cs L a ccd cl) e2 f2) (d3 : ArgE m (envX cn cs L a ccd cl) e3 f3) (d4 : ArgE m (envX cn cs L a ccd cl) e4 f4) (hk : cs.kind = .function) (hx : (envX cn cs L a ccd cl).kindOf x = some .globalImplicit) (hb : (x == ("__debug__" : Str)) = false)
    (h : ∀ t1 t2 t3 t4 k, wpAny (model prog w) A (call (.ref f) [f1 t1, f2 t2, f3 t3, f4 t4]) Q E ⟨hp, gn, dr, k, os⟩) : wpAny (model prog w) A (eval (.Call (.Name x np) [e1, e2, e3, e4] [] pos) (envX cn cs L a ccd cl)) Q E ⟨hp, gn, dr, tz, os⟩ :=
  Call_ (nameX_K F X T e (callWith_K X q (args4 F d1 d2 d3 d4 hk fun t1 t2 t3 t4 k => ⟨X.keeps F.keep, h t1 t2 t3 t4 k⟩) (star_of d1) (plain_of d2 (plain_of d3 (plain_of d4 rfl)))) hk hx hb)
end

/-- marks in the context: the ledger, the frame are not folded -/
def NoFoldN : Prop := True
def NoFoldF : Prop := True
theorem forgetT {α : Type} {M : Model} {A : Around} {x : Sem α} {Q : α → Shared → Prop} {E : Value → Shared → Prop} {h : Heap} {g : Array GenState} {d : Drawn} {t : Nat} {o : OsState} (H : ∀ t', wpAny M A x Q E ⟨h, g, d, t', o⟩) : wpAny M A x Q E ⟨h, g, d, t, o⟩ := H t
theorem room0 {R a d : Nat} (h : a + d < R) : a < R := Nat.lt_of_le_of_lt (Nat.le_add_right _ _) h
theorem room1 {R a d d' : Nat} (h : a + d < R) (q : 1 + d' ≤ d) : a + 1 + d' < R := by omega
theorem room3 {R a d d' : Nat} (h : a + d < R) (q : 3 + d' ≤ d) : a + 3 + d' < R := by omega
local macro_rules | `(tactic| k_all) => `(tactic| k_extra "my:#k_all")
local macro_rules | `(tactic| size_fits) => `(tactic| k_extra "my:#size_fits")
local macro_rules | `(tactic| ktr_room) => `(tactic| k_extra "my:#ktr_room")
local macro_rules | `(tactic| ktr_units) => `(tactic| k_extra "my:#ktr_units")
local macro_rules | `(tactic| units_room) => `(tactic| k_extra "my:#units_room")
theorem said_1 : True := by
  k_with "my:ite" => (first | with_reducible refine ite_tt ?_ | with_reducible refine ite_ff ?_)
  k_with "my:subscriptTail" => (k_here; (with_reducible show wpAny _ _ (subscriptTail _ _ (Value.bytes _ _) (Value.int _ _)) _ _ _); (refine KBw.item_K (by kba_ints) (by kba_size) (by kba_idx) (by kba_idx) ?_); intro _ _ _ _)
  k_with "my:execs cons Assign cons" => (k_here; (fail_if_success plain_pass); (fail_if_success (with_reducible show wpAny _ _ (execs (Stmt.Assign _ (PySem.Expr.List [] _) _ :: Stmt.For _ _ _ _ _ :: _) _) _ _ _)); k_extra "my:execs cons")
  k_with "my:eval Name" => (k_here; (fail_if_success plain_pass); (fail_if_success plain_pass); k_dflt (first | (name_kind "local"; (refine' nameX_L ?nlF ?nlV ?_ ?nlA ?nlB); (case nlF => k_asm); (case nlA => rfl); (case nlB => rfl); (case nlV => rfl); k_whole) | (name_kind "globalImplicit"; name_is_builtin; (refine' nameX_B ?nlF ?nlX ?nlT ?nlE ?nlV ?nlN ?_ ?nlA ?nlB); (case nlF => k_asm); (case nlX => k_asm); (case nlT => k_asm); (case nlA => rfl); (case nlB => kernel_rfl!); (case nlE => k_is); (case nlV => boot_fast); (case nlN => decide); k_whole) | (name_kind "globalImplicit"; (refine' nameX_K ?nlF ?nlX ?nlT ?nlE ?_ ?nlA ?nlB); (case nlF => k_asm); (case nlX => k_asm); (case nlT => k_asm); (case nlA => rfl); (case nlB => kernel_rfl!); (case nlE => k_is); k_whole)))
  k_with "my:exec Assign" => (k_here; (fail_if_success plain_pass); (with_reducible show wpAny _ _ (exec (Stmt.Assign [PySem.Expr.Name _ _] _ _) _) _ _ _); k_dflt (refine wpAny_Assign_Name ?_))
  k_with "my:spliced" => (k_here; (fail_if_success plain_pass); (with_reducible show wpAny _ _ (spliced (backTo _ (starEach (_ :: _) _))) _ _ _); k_dflt (refine args_cons ?_))
  k_with "my:callWith" => (k_here; (fail_if_success plain_pass); (with_reducible show wpAny _ _ (callWith _ (Value.builtin _) _ _ (backToKw _ (keywordEach [] _))) _ _ _); k_dflt (refine callWith_builtin1 ?_))
  k_with "my:eval Call Attribute" => (k_here; (fail_if_success plain_pass); (with_reducible show wpAny _ _ (eval (PySem.Expr.Call (PySem.Expr.Attribute _ _ _) _ [] _) _) _ _ _); k_dflt (refine MethodCall_ ?_))
  k_with "my:execs nil" => (k_here; (with_reducible show wpAny _ _ (execs [] _) _ _ (Shared.mk _ _ _ _ _)); with_reducible refine wpAny_execs_nil ?_)
  k_with "my:isTrue Compare" => (k_here; with_reducible refine wpAny_isTrue_Compare1 ?_)
  k_with "my:eval Constant int" => (k_here; with_reducible refine wpAny_Constant_int ?_)
  k_with "my:getMethod ref" => (k_here; (fail_if_success plain_pass); (with_reducible show wpAny _ _ (getMethod (Value.ref _) (Str.ofString "append") _) _ _ _); k_dflt (refine' listMethod_K ?lmN ?lmM PySem.F.slot_list_append PySem.F.type_list_append ?_; (case lmN => k_asm); (case lmM => k_mem)))
  k_with "my:my fold" => ((fail_if_success (fail_if_success k_fold)); (show (let qk : _ → Shared → Prop := _; let ek : Value → Shared → Prop := _; wpAny _ _ _ qk ek _)); intro qk ek)
  k_with "my:#k_all" => exact all_ne (by assumption)
  k_with "my:#size_fits" => first | exact Nat.le_of_ble_eq_true rfl | (show (_ : Nat) ≤ 16777216; omega)
  k_with "my:my start" => (unfold Called; k_fill; intros)
  k_with "my:my enter" => (refine wpAny_call ?_; k_dflt cell_enter; show (let Aq : Around := _; wpAny _ Aq _ _ _ _); intro Aq)
  k_with "my:#ktr_room" => first | exact room1 (by assumption) (Nat.le_of_ble_eq_true rfl) | exact room0 (by assumption)
  k_with "my:#ktr_units" => first | exact room3 (by assumption) (Nat.le_of_ble_eq_true rfl) | exact room0 (by assumption)
  k_with "my:#units_room" => exact room3 (by assumption) (Nat.le_of_ble_eq_true rfl)
  k_with "my:my int" => (first | (with_reducible exact IntE.const) | (refine' IntE.name ?inA ?inB ?inC; (case inA => exact rfl); (case inB => exact rfl); (case inC => exact rfl)) | (refine' IntE.add ?_ ?_ <;> k_extra "my:my int") | (refine' IntE.sub ?_ ?_ <;> k_extra "my:my int") | (refine' IntE.mul ?_ ?_ ?_ <;> k_extra "my:my int") | (refine' IntE.mod ?_ ?_ ?_ <;> k_extra "my:my int") | (refine' IntE.fdiv ?_ ?_ ?_ ?_ <;> k_extra "my:my int") | ((with_reducible show _ ≠ _); (first | decide | k_extra "my:my int more")) | ((with_reducible show IntE _ _ (PySem.Expr.BinOp _ Operator.Pow _ _) _); (first | (refine IntE.pow (v := 340282366920938463463374607431768211456) (by decide) (by decide) (by decide +kernel)) | (refine IntE.pow (v := 1048576) (by decide) (by decide) (by decide +kernel)) | (refine IntE.pow (v := 85070591730234615865843651857942052864) (by decide) (by decide) (by decide +kernel)) | (refine IntE.pow (v := 18446744073709551616) (by decide) (by decide) (by decide +kernel)) | (refine IntE.pow (v := 170141183460469231731687303715884105728) (by decide) (by decide) (by decide +kernel)) | (refine IntE.pow (v := 42535295865117307932921825928971026432) (by decide) (by decide) (by decide +kernel)) | k_extra "my:my int more")) | (with_reducible exact PySem.IntMulOk.of_right (by decide)) | (with_reducible exact PySem.IntMulOk.of_left (by decide)) | (exact PyProof.noPylong_of_log2 (by decide +kernel)))
  k_with "my:my arg" => (first | (refine' ArgE.any ?inA ?inB ?inC; (case inA => exact rfl); (case inB => exact rfl); (case inC => exact rfl)) | (refine' ArgE.int ?aeI; (case aeI => k_extra "my:my int")))
  k_with "my:eval BinOp" => (k_here; (fail_if_success plain_pass); (with_reducible show wpAny _ _ (eval (PySem.Expr.BinOp _ _ _ _) _) _ _ _); k_dflt (refine' int_evalS ?cf1 ?cfK ?cfF ?_; (case cfF => k_asm); (case cf1 => k_extra "my:my int"); (case cfK => first | exact rfl | assumption)); intro tkA tkB; (try dsimp only))
  k_with "my:eval Call" => (k_here; (fail_if_success plain_pass); (with_reducible show wpAny _ _ (eval (PySem.Expr.Call (PySem.Expr.Name _ _) [_, _, _, _] [] _) _) _ _ _); k_dflt (refine' call4 ?cfF ?cfX ?cfT ?cfE ?cfQ ?cf1 ?cf2 ?cf3 ?cf4 ?cfK ?cfH ?cfB ?_; (case cfF => k_asm); (case cfX => k_asm); (case cfT => k_asm); (case cfE => k_is); (case cfQ => k_is); (case cfK => first | exact rfl | assumption); (case cfH => kernel_rfl!); (case cfB => exact rfl); (case cf1 => k_extra "my:my arg"); (case cf2 => k_extra "my:my arg"); (case cf3 => k_extra "my:my arg"); (case cf4 => k_extra "my:my arg")); intro tkA tkB tkC tkD tkE; (try dsimp only))
  k_with "my:eval Call" => (k_here; (fail_if_success plain_pass); (with_reducible show wpAny _ _ (eval (PySem.Expr.Call (PySem.Expr.Name _ _) [_, _, _] [] _) _) _ _ _); k_dflt (refine' call3 ?cfF ?cfX ?cfT ?cfE ?cfQ ?cf1 ?cf2 ?cf3 ?cfK ?cfH ?cfB ?_; (case cfF => k_asm); (case cfX => k_asm); (case cfT => k_asm); (case cfE => k_is); (case cfQ => k_is); (case cfK => first | exact rfl | assumption); (case cfH => kernel_rfl!); (case cfB => exact rfl); (case cf1 => k_extra "my:my arg"); (case cf2 => k_extra "my:my arg"); (case cf3 => k_extra "my:my arg")); intro tkA tkB tkC tkD; (try dsimp only))
  k_with "my:eval Call" => (k_here; (fail_if_success plain_pass); (with_reducible show wpAny _ _ (eval (PySem.Expr.Call (PySem.Expr.Name _ _) [_, _] [] _) _) _ _ _); k_dflt (refine' call2 ?cfF ?cfX ?cfT ?cfE ?cfQ ?cf1 ?cf2 ?cfK ?cfH ?cfB ?_; (case cfF => k_asm); (case cfX => k_asm); (case cfT => k_asm); (case cfE => k_is); (case cfQ => k_is); (case cfK => first | exact rfl | assumption); (case cfH => kernel_rfl!); (case cfB => exact rfl); (case cf1 => k_extra "my:my arg"); (case cf2 => k_extra "my:my arg")); intro tkA tkB tkC; (try dsimp only))
  k_with "my:eval Call" => (k_here; (fail_if_success plain_pass); (with_reducible show wpAny _ _ (eval (PySem.Expr.Call (PySem.Expr.Name _ _) [_] [] _) _) _ _ _); k_dflt (refine' call1 ?cfF ?cfX ?cfT ?cfE ?cfQ ?cf1 ?cfK ?cfH ?cfB ?_; (case cfF => k_asm); (case cfX => k_asm); (case cfT => k_asm); (case cfE => k_is); (case cfQ => k_is); (case cfK => first | exact rfl | assumption); (case cfH => kernel_rfl!); (case cfB => exact rfl); (case cf1 => k_extra "my:my arg")); intro tkA tkB; (try dsimp only))
  k_with "my:spliced" => (k_here; (fail_if_success plain_pass); (with_reducible show wpAny _ _ (spliced (backTo _ (starEach [_, _, _, _, _, _, _, _] _))) _ _ _); k_dflt (refine' args8 ?cfF ?cf1 ?cf2 ?cf3 ?cf4 ?cf5 ?cf6 ?cf7 ?cf8 ?cfK ?_; (case cfF => k_asm); (case cf1 => k_extra "my:my arg"); (case cf2 => k_extra "my:my arg"); (case cf3 => k_extra "my:my arg"); (case cf4 => k_extra "my:my arg"); (case cf5 => k_extra "my:my arg"); (case cf6 => k_extra "my:my arg"); (case cf7 => k_extra "my:my arg"); (case cf8 => k_extra "my:my arg"); (case cfK => first | exact rfl | assumption)); intro tkA tkB tkC tkD tkE tkF tkG tkH tkI; (try dsimp only [List.cons_append, List.nil_append]))
  k_with "my:spliced" => (k_here; (fail_if_success plain_pass); (with_reducible show wpAny _ _ (spliced (backTo _ (starEach [_, _, _, _, _, _, _] _))) _ _ _); k_dflt (refine' args7 ?cfF ?cf1 ?cf2 ?cf3 ?cf4 ?cf5 ?cf6 ?cf7 ?cfK ?_; (case cfF => k_asm); (case cf1 => k_extra "my:my arg"); (case cf2 => k_extra "my:my arg"); (case cf3 => k_extra "my:my arg"); (case cf4 => k_extra "my:my arg"); (case cf5 => k_extra "my:my arg"); (case cf6 => k_extra "my:my arg"); (case cf7 => k_extra "my:my arg"); (case cfK => first | exact rfl | assumption)); intro tkA tkB tkC tkD tkE tkF tkG tkH; (try dsimp only [List.cons_append, List.nil_append]))
  k_with "my:spliced" => (k_here; (fail_if_success plain_pass); (with_reducible show wpAny _ _ (spliced (backTo _ (starEach [_, _, _, _, _, _] _))) _ _ _); k_dflt (refine' args6 ?cfF ?cf1 ?cf2 ?cf3 ?cf4 ?cf5 ?cf6 ?cfK ?_; (case cfF => k_asm); (case cf1 => k_extra "my:my arg"); (case cf2 => k_extra "my:my arg"); (case cf3 => k_extra "my:my arg"); (case cf4 => k_extra "my:my arg"); (case cf5 => k_extra "my:my arg"); (case cf6 => k_extra "my:my arg"); (case cfK => first | exact rfl | assumption)); intro tkA tkB tkC tkD tkE tkF tkG; (try dsimp only [List.cons_append, List.nil_append]))
  k_with "my:spliced" => (k_here; (fail_if_success plain_pass); (with_reducible show wpAny _ _ (spliced (backTo _ (starEach [_, _, _, _, _] _))) _ _ _); k_dflt (refine' args5 ?cfF ?cf1 ?cf2 ?cf3 ?cf4 ?cf5 ?cfK ?_; (case cfF => k_asm); (case cf1 => k_extra "my:my arg"); (case cf2 => k_extra "my:my arg"); (case cf3 => k_extra "my:my arg"); (case cf4 => k_extra "my:my arg"); (case cf5 => k_extra "my:my arg"); (case cfK => first | exact rfl | assumption)); intro tkA tkB tkC tkD tkE tkF; (try dsimp only [List.cons_append, List.nil_append]))
  k_with "my:spliced" => (k_here; (fail_if_success plain_pass); (with_reducible show wpAny _ _ (spliced (backTo _ (starEach [_, _, _, _] _))) _ _ _); k_dflt (refine' args4 ?cfF ?cf1 ?cf2 ?cf3 ?cf4 ?cfK ?_; (case cfF => k_asm); (case cf1 => k_extra "my:my arg"); (case cf2 => k_extra "my:my arg"); (case cf3 => k_extra "my:my arg"); (case cf4 => k_extra "my:my arg"); (case cfK => first | exact rfl | assumption)); intro tkA tkB tkC tkD tkE; (try dsimp only [List.cons_append, List.nil_append]))
  k_with "my:spliced" => (k_here; (fail_if_success plain_pass); (with_reducible show wpAny _ _ (spliced (backTo _ (starEach [_, _, _] _))) _ _ _); k_dflt (refine' args3 ?cfF ?cf1 ?cf2 ?cf3 ?cfK ?_; (case cfF => k_asm); (case cf1 => k_extra "my:my arg"); (case cf2 => k_extra "my:my arg"); (case cf3 => k_extra "my:my arg"); (case cfK => first | exact rfl | assumption)); intro tkA tkB tkC tkD; (try dsimp only [List.cons_append, List.nil_append]))
  k_with "my:spliced" => (k_here; (fail_if_success plain_pass); (with_reducible show wpAny _ _ (spliced (backTo _ (starEach [_, _] _))) _ _ _); k_dflt (refine' args2 ?cfF ?cf1 ?cf2 ?cfK ?_; (case cfF => k_asm); (case cf1 => k_extra "my:my arg"); (case cf2 => k_extra "my:my arg"); (case cfK => first | exact rfl | assumption)); intro tkA tkB tkC; (try dsimp only [List.cons_append, List.nil_append]))
  k_with "my:spliced" => (k_here; (fail_if_success plain_pass); (with_reducible show wpAny _ _ (spliced (backTo _ (starEach [_] _))) _ _ _); k_dflt (refine' args1 ?cfF ?cf1 ?cfK ?_; (case cfF => k_asm); (case cf1 => k_extra "my:my arg"); (case cfK => first | exact rfl | assumption)); intro tkA tkB; (try dsimp only [List.cons_append, List.nil_append]))
  k_with "my:my foldN" => ((fail_if_success (have nf9 : NoFoldN := by with_reducible assumption)); refine (let nq : List (Addr × Obj) := _; (fun nqN : News _ _ _ nq => ?_) (by with_reducible assumption)))
  k_with "my:my foldF" => ((fail_if_success (have nf9 : NoFoldF := by with_reducible assumption)); refine (let mq : Str → Option Value := _; (fun mqF : Fr _ _ _ mq => ?_) (by with_reducible assumption)))
  k_with "my:execs cons" => (k_here; (with_reducible show wpAny _ _ (execs _ _) _ _ _); (try k_made); (try k_extra "my:my fold"); (try k_extra "my:my foldN"); (try k_extra "my:my foldF"); (with_reducible refine wpAny_execs_cons ?_); (try dsimp only))
  k_with "my:execs cons" => (k_here; (with_reducible show wpAny _ _ (execs _ _) _ _ (Shared.mk _ _ _ (_ + _) _)); (try dsimp only); refine forgetT fun tkF => ?_)
  k_with "my:eval Call" => (k_here; (with_reducible show wpAny _ _ (eval (PySem.Expr.Call _ _ _ _) _) _ _ _); k_extra "my:my fold")
  k_with "my:eval List" => (k_here; (with_reducible show wpAny _ _ (eval (PySem.Expr.List (_ :: _) _) _) _ _ _); k_extra "my:my fold")
  k_with "my:eval Subscript" => (k_here; (with_reducible show wpAny _ _ (eval (PySem.Expr.Subscript _ _ _) _) _ _ _); k_extra "my:my fold")
  k_with "my:eval BinOp" => (k_here; (with_reducible show wpAny _ _ (eval (PySem.Expr.BinOp _ _ _ _) _) _ _ _); k_extra "my:my fold")
  k_with "my:eval Tuple" => (k_here; (with_reducible show wpAny _ _ (eval (PySem.Expr.Tuple _ _ _) _) _ _ _); k_extra "my:my fold")
  k_with "my:my sub" => (intro p hp; repeat (first | exact hp | refine List.mem_cons_of_mem _ ?_ | refine List.mem_append_right _ ?_))
  k_with "my:my facts" => ((case k1 => k_asm); (case k2 => k_asm); (case k3 => k_asm); (case k4 => k_asm); (case k5 => k_asm); (case k6 => first | exact rfl | assumption); (case kd => ktr_room); (case ku => ktr_units))
  trivial

theorem part_02 : True := by
  w_top off
  trivial
noncomputable def hsize (k s : Int) : Int := if k = 0 ∨ k = 43 ∨ k = 60 then (s + 1) * 8 else if k = 51 then (s + 2) * 4 else if k = 44 then 8 else 0

theorem any_three (k : Int) : (([0, 43, 60] : List Int).any fun x => x == k) = decide (k = 0 ∨ k = 43 ∨ k = 60) := by
  simp only [List.any_cons, List.any_nil, Bool.or_false]
  by_cases h1 : k = 0
  · subst h1; rfl
  · by_cases h2 : k = 43
    · subst h2; rfl
    · by_cases h3 : k = 60
      · subst h3; rfl
      · simp [h1, h2, h3, Ne.symm h1, Ne.symm h2, Ne.symm h3]

theorem head_size_c (w : World) (news : List (Addr × Obj)) (k sec : Int) (t1 t2 : Tok) (hs : 0 ≤ sec ∧ sec < 256) :
    Called w 98 2 16 [.int k t1, .int sec t2] news (fun _ => True) (IsInt (hsize k sec)) := by
  refine of_heldQ ?_
  simp (disch := (refine anchorQ ?_; k_dflt (
  k_extra "my:my start"
  rename_i hret
  k_extra "my:my enter"
  k_steps
  all_goals (try rw [any_three] at *)
  all_goals (simp only [decide_eq_true_eq, decide_eq_false_iff_not] at *)
  all_goals (refine ret0 hret (by k_asm) (by k_asm) (by k_extra "my:my sub") (IsInt.of ?_); unfold hsize; simp_all; done)))) only [↓heldQ_eq]
theorem said_2 : True := by
  k_with "my:call ref" => (k_here; (fail_if_success plain_pass); (with_reducible show wpAny _ _ (call (Value.ref 98) _) _ _ _); k_dflt ( refine' Called.useI ?k1 ?k2 ?k3 ?k4 ?k5 ?k6 (head_size_c _ _ _ _ _ _ ?kp) trivial ?kd ?ku ?_; k_extra "my:my facts"; (case kp => first | assumption | omega | (constructor <;> omega)); intro t9 h9 tk9 F9 N9; (try dsimp only); (try k_extra "my:my fold")))
  trivial

noncomputable def sizeAt (ks : List Int) (at_ kind end_ : Int) : Int :=
  if hsize kind 0 = 0 then 0 else if at_ + 2 > end_ then -1 else
    if at_ + hsize kind (ks.getD (at_ + 1).toNat 0) > end_ then -1 else hsize kind (ks.getD (at_ + 1).toNat 0)

theorem size_at_c (w : World) (news : List (Addr × Obj)) (b : Array UInt8) (ks : List Int) (at_ kind end_ : Int) (t t1 t2 t3 : Tok) (hb : KBw.bInts b = ks) (hlen : ks.length < 70000) (hs : 0 ≤ at_ ∧ at_ < 70000 ∧ 0 ≤ end_ ∧ end_ ≤ ks.length) :
    Called w 105 4 32 [.bytes b t, .int at_ t1, .int kind t2, .int end_ t3] news (fun _ => True) (IsInt (sizeAt ks at_ kind end_)) := by
  refine of_heldQ ?_
  simp (disch := (refine anchorQ ?_; k_dflt (
  k_extra "my:my start"
  rename_i hret
  k_extra "my:my enter"
  k_steps
  all_goals (simp only [decide_eq_true_eq, decide_eq_false_iff_not, beq_iff_eq, beq_eq_false_iff_ne] at *)
  all_goals (refine ret0 hret (by k_asm) (by k_asm) (by k_extra "my:my sub") (IsInt.of ?_); clear hret; unfold sizeAt)
  all_goals ((repeat' split) <;> first | rfl | omega | contradiction)))) only [↓heldQ_eq]
theorem said_3 : True := by
  k_with "my:call ref" => (k_here; (fail_if_success plain_pass); (with_reducible show wpAny _ _ (call (Value.ref 105) _) _ _ _); k_dflt ( refine' Called.useI ?k1 ?k2 ?k3 ?k4 ?k5 ?k6 (size_at_c _ _ _ _ _ _ _ _ _ _ _ ?kp ?kq ?kr) trivial ?kd ?ku ?_; k_extra "my:my facts"; (case kp => assumption); (case kq => omega); (case kr => refine ⟨?_, ?_, ?_, ?_⟩ <;> omega); intro t9 h9 tk9 F9 N9; (try dsimp only); (try k_extra "my:my fold")))
  trivial

theorem part_03 : True := by
  w_top off
  trivial
/-! ## loops of my own: any target, an invariant over the frame's map and the ledger -/
/-- how a turn ends -/
def TurnAt (h₀ : Heap) (L I : Addr) (oI : Obj) (J : (Str → Option Value) → List (Addr × Obj) → Prop) (s₀ : Shared) (Q : Flow → Shared → Prop) (f : Flow) (s₂ : Shared) : Prop :=
  match f with
  | .ret v => Q (.ret v) s₂
  | .brk => Q .next s₂
  | _ => ∃ h' tk m' news', s₂ = { s₀ with heap := h', toks := tk } ∧ Fr h₀ L h' m' ∧ News h₀ L h' ((I, oI) :: news') ∧ (∀ p ∈ news', p.1 ≠ I) ∧ J m' news'

/-- a turn that ends at its body's end -/
def TurnEnd (h₀ : Heap) (L I : Addr) (oI : Obj) (J : (Str → Option Value) → List (Addr × Obj) → Prop) (s₀ s₂ : Shared) : Prop :=
  ∃ h' tk m' news', s₂ = { s₀ with heap := h', toks := tk } ∧ Fr h₀ L h' m' ∧ News h₀ L h' ((I, oI) :: news') ∧ (∀ p ∈ news', p.1 ≠ I) ∧ J m' news'

theorem TurnAt.next {h₀ : Heap} {L I : Addr} {oI : Obj} {J : (Str → Option Value) → List (Addr × Obj) → Prop} {s₀ : Shared} {Q : Flow → Shared → Prop} {s₂ : Shared} (h : TurnEnd h₀ L I oI J s₀ s₂) : TurnAt h₀ L I oI J s₀ Q .next s₂ := h

theorem TurnEnd.intro {h₀ : Heap} {L I : Addr} {oI : Obj} {J : (Str → Option Value) → List (Addr × Obj) → Prop} {s₀ s₁ : Shared} {h' : Heap} {tk : Nat} {m' : Str → Option Value} {led news' : List (Addr × Obj)}
    (F : Fr h₀ L h' m') (N : News h₀ L h' led) (hI : (I, oI) ∈ led) (hs : ∀ p ∈ news', p ∈ led) (ha : ∀ p ∈ news', p.1 ≠ I) (j : J m' news') (e : ({ s₁ with heap := h', toks := tk } : Shared) = { s₀ with heap := h', toks := tk }) :
    TurnEnd h₀ L I oI J s₀ { s₁ with heap := h', toks := tk } :=
  ⟨h', tk, m', news', e, F, fun p hp => (List.mem_cons.mp hp).elim (fun e => e ▸ N _ hI) fun h => N p (hs p h), ha, j⟩

section
variable {prog : Program} {w : World} {A : Around} {E : Value → Shared → Prop} {s : Shared} {env : Env} {h₀ : Heap} {target : Expr} {body : List Stmt} {Q : Flow → Shared → Prop}

theorem walk_for {I : Addr} {fp : List Addr} {n : Nat} {P : Nat → Value → Prop} {St : Nat → Heap → Prop} {m : Str → Option Value} {news : List (Addr × Obj)} (W : Walks prog w A I fp [I] n P St)
    (hhas : ∀ i h, St i h → ∃ o, h.get? I = some o) (hI : h₀.get? I = none) (hIL : I ≠ env.locals) (hIn : ∀ p ∈ news, p.1 ≠ I) (hst : St 0 s.heap) (F : Fr h₀ env.locals s.heap m) (N : News h₀ env.locals s.heap news)
    (J : Nat → (Str → Option Value) → List (Addr × Obj) → Prop) (h0 : J 0 m news)
    (hfp : ∀ b ∈ fp, b ≠ I → (∃ ob, h₀.get? b = some ob) ∨ ∃ ob, ∀ i m₁ news₁, J i m₁ news₁ → (b, ob) ∈ news₁)
    (hgo : ∀ i (s' : Shared) v (Q' : Unit → Shared → Prop) (E' : Value → Shared → Prop), St i s'.heap → Q' () s' → wpAny (model prog w) A (letOwnedTupleGo target (.ref I) v) Q' E' s')
    (turn : ∀ i v m₁ news₁ h tk oI, i < n → P i v → J i m₁ news₁ → (∀ p ∈ news₁, p.1 ≠ I) → Fr h₀ env.locals h m₁ → News h₀ env.locals h ((I, oI) :: news₁) →
      wpAny (model prog w) A (assign target env v) (fun _ s₃ => wpAny (model prog w) A (execs body env) (TurnAt h₀ env.locals I oI (J (i + 1)) s Q) E s₃) E { s with heap := h, toks := tk })
    (done : ∀ m₁ news₁ h tk, J n m₁ news₁ → Fr h₀ env.locals h m₁ → News h₀ env.locals h news₁ → Q .next { s with heap := h, toks := tk })
    (hE : PassesOwn (model prog w) A env E) :
    codeAny (model prog w) A (.forLoop target (.ref I) body [] env) (fun r s' => match r with | .ok f => Q f s' | .error e => cameBackBy (model prog w) A env E e s') s := by
  refine codeAny_forLoop_any
    (fun k s' => ∃ h' tk m' news' i oI, s' = { s with heap := h', toks := tk } ∧ St i h' ∧ Fr h₀ env.locals h' m' ∧ News h₀ env.locals h' ((I, oI) :: news') ∧ (∀ p ∈ news', p.1 ≠ I) ∧ J i m' news' ∧ i ≤ n ∧ k = n + 1 - i) ?_ (n + 1) ?_
  · rintro k s' ⟨h', tk, m', news', i, oI, rfl, hst', F', N', ha, hJ, hi, rfl⟩
    have next : ∀ h₁ : Heap, (∀ b o, b ∉ [I] → h'.get? b = some o → h₁.get? b = some o) → Fr h₀ env.locals h₁ m' ∧ News h₀ env.locals h₁ news' := fun h₁ hk =>
      ⟨⟨F'.ns.at' fun o e => hk _ o (fun q => hIL (List.mem_singleton.mp q).symm) e, fun b o e => hk b o (fun q => by rw [List.mem_singleton.mp q, hI] at e; cases e) (F'.keep b o e), F'.above⟩,
        fun p hp => ⟨hk _ _ (fun q => ha p hp (List.mem_singleton.mp q)) (N' p (.tail _ hp)).1, (N' p (.tail _ hp)).2⟩⟩
    by_cases hlt : i < n
    · refine W.item i _ _ _ hlt hst' fun v h₁ tk₁ hP hst₁ hk₁ => ?_
      obtain ⟨F₁, N₁⟩ := next h₁ hk₁
      obtain ⟨o₁, ho₁⟩ := hhas _ _ hst₁
      have N₂ : News h₀ env.locals h₁ ((I, o₁) :: news') := fun p hp => (List.mem_cons.mp hp).elim (fun e => e ▸ ⟨ho₁, hIL, hI⟩) (N₁ p)
      refine hgo (i + 1) _ v _ _ hst₁ ?_
      refine wpAny_mono (turn i v m' news' h₁ tk₁ o₁ hlt hP hJ ha F₁ N₂) (fun _ s₂ h₂ => wpAny_mono h₂ (fun f s₃ h₃ => ?_) hE) hE
      have fin : (∃ h' tk m' news', s₃ = { s with heap := h', toks := tk } ∧ Fr h₀ env.locals h' m' ∧ News h₀ env.locals h' ((I, o₁) :: news') ∧ (∀ p ∈ news', p.1 ≠ I) ∧ J (i + 1) m' news') →
          ∃ m, m < n + 1 - i ∧ ∃ h' tk m' news' j oI, s₃ = { s with heap := h', toks := tk } ∧ St j h' ∧ Fr h₀ env.locals h' m' ∧ News h₀ env.locals h' ((I, oI) :: news') ∧ (∀ p ∈ news', p.1 ≠ I) ∧ J j m' news' ∧ j ≤ n ∧ m = n + 1 - j := by
        rintro ⟨g₃, tk₃, m₃, news₃, rfl, F₃, N₃, ha₃, hJ₃⟩
        refine ⟨n + 1 - (i + 1), by omega, g₃, tk₃, m₃, news₃, i + 1, o₁, rfl, ?_, F₃, N₃, ha₃, hJ₃, hlt, rfl⟩
        refine W.frame _ _ _ hst₁ fun b hb o e => ?_
        by_cases hbI : b = I
        · subst hbI
          rw [ho₁] at e
          cases e
          exact (N₃ _ (.head _)).1
        · rcases hfp b hb hbI with ⟨ob, hob⟩ | ⟨ob, hob⟩
          · have := F₁.keep b ob hob
            rw [e] at this
            cases this
            exact F₃.keep b _ hob
          · have := (N₁ _ (hob _ _ _ hJ)).1
            rw [e] at this
            cases this
            exact (N₃ _ (.tail _ (hob _ _ _ hJ₃))).1
      cases f with
      | ret v => exact h₃
      | brk => exact h₃
      | next => exact fin h₃
      | cont => exact fin h₃
    · have hin : i = n := by omega
      subst hin
      refine W.done _ _ _ hst' fun h₁ tk₁ hk₁ => wpAny_execs_nil ?_
      obtain ⟨F₁, N₁⟩ := next h₁ hk₁
      exact done m' news' h₁ tk₁ hJ F₁ N₁
  · obtain ⟨oI, hoI⟩ := hhas _ _ hst
    exact ⟨s.heap, s.toks, m, news, 0, oI, rfl, hst, F, (fun p hp => (List.mem_cons.mp hp).elim (fun e => e ▸ ⟨hoI, hIL, hI⟩) (N p)), hIn, h0, Nat.zero_le _, rfl⟩

/-- what is left of a for once its iterable is there -/
def ForAt (prog : Program) (w : World) (A : Around) (env : Env) (target : Expr) (body : List Stmt) (Q : Flow → Shared → Prop) (E : Value → Shared → Prop) (xv : Value) (s₁ : Shared) : Prop :=
  wpAny (model prog w) A (pyIter xv) (fun it s₂ => codeAny (model prog w) A (.forLoop target it body [] env) (fun r s' => match r with | .ok f => Q f s' | .error e => cameBackBy (model prog w) A env E e s') s₂) E s₁

theorem exec_for {iter : Expr} {pos : Pos} (h : wpAny (model prog w) A (eval iter env) (ForAt prog w A env target body Q E) E s) (hs : ∀ x, foldedSetIterable iter env x = pure x) :
    wpAny (model prog w) A (exec (.For target iter body [] pos) env) Q E s := wpAny_For h hs

theorem for_bytes {b : Array UInt8} {ks : List Int} {tb : Tok} {m : Str → Option Value} {news : List (Addr × Obj)} (hh : A.handled = none) (hb : KBw.bInts b = ks) (F : Fr h₀ env.locals s.heap m) (N : News h₀ env.locals s.heap news)
    (J : Nat → (Str → Option Value) → List (Addr × Obj) → Prop) (h0 : J 0 m news)
    (turn : ∀ i k t m₁ news₁ h tk I oI, ks[i]? = some k → 0 ≤ k → k < 256 → (∀ p ∈ news, p.1 < I) → J i m₁ news₁ → (∀ p ∈ news₁, p.1 ≠ I) → Fr h₀ env.locals h m₁ → News h₀ env.locals h ((I, oI) :: news₁) →
      wpAny (model prog w) A (assign target env (.int k t)) (fun _ s₃ => wpAny (model prog w) A (execs body env) (TurnAt h₀ env.locals I oI (J (i + 1)) s Q) E s₃) E { s with heap := h, toks := tk })
    (done : ∀ m₁ news₁ h tk, J ks.length m₁ news₁ → Fr h₀ env.locals h m₁ → News h₀ env.locals h news₁ → Q .next { s with heap := h, toks := tk })
    (hE : PassesOwn (model prog w) A env E) (ht : ∀ I v, letOwnedTupleGo target (.ref I) v = pure ()) : ForAt prog w A env target body Q E (.bytes b tb) s := by
  subst hb
  unfold ForAt
  refine KBw.pyIter_bytes ?_
  have hlt : ∀ p ∈ news, p.1 < s.heap.objs.size := fun p hp => Heap.lt_size (N p hp).1
  have hlen : b.size = (KBw.bInts b).length := (KBw.ints_length b).symm
  refine walk_for (s := { s with heap := s.heap.push { cls := .type "bytes_iterator", data := .fields #[.bytes b tb, .int 0 0] } }) (KBw.walks hh s.heap.objs.size b tb) (fun i h st => let ⟨o, ho, _⟩ := st; ⟨o, ho⟩) (next_is_new F) (Nat.ne_of_gt F.ns.lt) (fun p hp => Nat.ne_of_lt (hlt p hp))
    ⟨_, Heap.get?_push_size _ rfl, rfl, rfl⟩ (F.push _) (fun p hp => ⟨Heap.get?_push_of_some _ (N p hp).1, (N p hp).2⟩) J h0 (fun b hb hne => absurd (List.mem_singleton.mp hb) hne)
    (fun i s' v Q' E' _ h => by rw [ht]; exact wpAny_pure h) ?_ (fun m₁ news₁ h tk hJ F₁ N₁ => done m₁ news₁ h tk (hlen ▸ hJ) F₁ N₁) hE
  rintro i v m₁ news₁ h tk oI hi ⟨c, u, hc, rfl⟩ hJ ha F₁ N₁
  have hk := KBw.ints_get hc
  have hr := KBw.ints_in (List.mem_of_getElem? hk)
  exact turn i _ u m₁ news₁ h tk _ oI hk hr.1 hr.2 hlt hJ ha F₁ N₁
end

section
variable {prog : Program} {w : World} {A : Around} {E : Value → Shared → Prop} {s : Shared} {env : Env} {h₀ : Heap} {target : Expr} {body : List Stmt} {Q : Flow → Shared → Prop}
theorem range_small {n : Nat} (hn : n < 2 ^ 62) : Builtin.Range.small 0 (n : Int) 1 = true ∧ Builtin.Range.rangeSize 0 (n : Int) 1 = (n : Int) := by
  have hsz : Builtin.Range.rangeSize 0 (n : Int) 1 = (n : Int) := by rw [rangeSize_one]; split <;> omega
  exact ⟨PySem.small_one (by omega) (by omega) (by omega) (by omega), hsz⟩

theorem for_range {r : Addr} {e : Int} {n : Nat} {t₀ u₀ v₀ : Tok} {m : Str → Option Value} {news : List (Addr × Obj)} (hh : A.handled = none) (hr : IsRange s.heap r 0 e 1 t₀ u₀ v₀) (he : e = (n : Int)) (hn : n < 2 ^ 62)
    (F : Fr h₀ env.locals s.heap m) (N : News h₀ env.locals s.heap news)
    (J : Nat → (Str → Option Value) → List (Addr × Obj) → Prop) (h0 : J 0 m news)
    (turn : ∀ i t m₁ news₁ h tk I oI, i < n → (∀ p ∈ news, p.1 < I) → J i m₁ news₁ → (∀ p ∈ news₁, p.1 ≠ I) → Fr h₀ env.locals h m₁ → News h₀ env.locals h ((I, oI) :: news₁) →
      wpAny (model prog w) A (assign target env (.int (i : Int) t)) (fun _ s₃ => wpAny (model prog w) A (execs body env) (TurnAt h₀ env.locals I oI (J (i + 1)) s Q) E s₃) E { s with heap := h, toks := tk })
    (done : ∀ m₁ news₁ h tk, J n m₁ news₁ → Fr h₀ env.locals h m₁ → News h₀ env.locals h news₁ → Q .next { s with heap := h, toks := tk })
    (hE : PassesOwn (model prog w) A env E) (ht : ∀ I v, letOwnedTupleGo target (.ref I) v = pure ()) : ForAt prog w A env target body Q E (.ref r) s := by
  subst he
  obtain ⟨hsm, hsz⟩ := range_small hn
  unfold ForAt
  refine wpAny_pyIter_range hr hsm ?_
  have hlt : ∀ p ∈ news, p.1 < s.heap.objs.size := fun p hp => Heap.lt_size (N p hp).1
  refine walk_for (s := { s with heap := s.heap.push { cls := .type "range_iterator", data := .fields #[rawInt 0, rawInt (Builtin.Range.rangeSize 0 (n : Int) 1), rawInt 1] } }) (Walks.range hh s.heap.objs.size 0 1 n) (fun i h st => ⟨_, st⟩) (next_is_new F) (Nat.ne_of_gt F.ns.lt) (fun p hp => Nat.ne_of_lt (hlt p hp))
    (by show IsRangeIter _ _ _ _ _; rw [hsz]; simpa using Heap.get?_push_size _ rfl) (F.push _) (fun p hp => ⟨Heap.get?_push_of_some _ (N p hp).1, (N p hp).2⟩) J h0 (fun b hb hne => absurd (List.mem_singleton.mp hb) hne)
    (fun i s' v Q' E' _ h => by rw [ht]; exact wpAny_pure h) ?_ (fun m₁ news₁ h tk hJ F₁ N₁ => done m₁ news₁ h tk hJ F₁ N₁) hE
  rintro i v m₁ news₁ h tk oI hi ⟨u, rfl⟩ hJ ha F₁ N₁
  have := turn i u m₁ news₁ h tk _ oI hi hlt hJ ha F₁ N₁
  have e1 : (0 : Int) + (i : Int) * 1 = (i : Int) := by omega
  rw [e1]
  exact this

theorem for_list {l : Addr} {vs : List Value} {n : Nat} {m : Str → Option Value} {news : List (Addr × Obj)} (hh : A.handled = none)
    (F : Fr h₀ env.locals s.heap m) (N : News h₀ env.locals s.heap news) (hl : (l, PySem.W.listOf vs.toArray n) ∈ news)
    (J : Nat → (Str → Option Value) → List (Addr × Obj) → Prop) (h0 : J 0 m news) (hJ : ∀ i m₁ news₁, J i m₁ news₁ → (l, PySem.W.listOf vs.toArray n) ∈ news₁)
    (turn : ∀ i v m₁ news₁ h tk I oI, vs[i]? = some v → (∀ p ∈ news, p.1 < I) → J i m₁ news₁ → (∀ p ∈ news₁, p.1 ≠ I) → Fr h₀ env.locals h m₁ → News h₀ env.locals h ((I, oI) :: news₁) →
      wpAny (model prog w) A (assign target env v) (fun _ s₃ => wpAny (model prog w) A (execs body env) (TurnAt h₀ env.locals I oI (J (i + 1)) s Q) E s₃) E { s with heap := h, toks := tk })
    (done : ∀ m₁ news₁ h tk, J vs.length m₁ news₁ → Fr h₀ env.locals h m₁ → News h₀ env.locals h news₁ → Q .next { s with heap := h, toks := tk })
    (hE : PassesOwn (model prog w) A env E) : ForAt prog w A env target body Q E (.ref l) s := by
  have hls : s.heap.IsList l vs.toArray := ⟨_, (N _ hl).1, rfl, n, rfl⟩
  have hlt : ∀ p ∈ news, p.1 < s.heap.objs.size := fun p hp => Heap.lt_size (N p hp).1
  have hne : l ≠ s.heap.objs.size := Nat.ne_of_lt (hlt _ hl)
  unfold ForAt
  refine wpAny_pyIter_list hls ?_
  have W := Walks.list (prog := prog) (w := w) hh s.heap.objs.size l hne vs.toArray
  have hsz : vs.toArray.size = vs.length := List.size_toArray ..
  rw [hsz] at W
  refine walk_for (s := { s with heap := s.heap.push { cls := .type "list_iterator", data := .fields #[.ref l, .int 0 0] } }) W (fun i h st => let ⟨⟨o, ho, _⟩, _⟩ := st; ⟨o, ho⟩) (next_is_new F) (Nat.ne_of_gt F.ns.lt) (fun p hp => Nat.ne_of_lt (hlt p hp))
    ⟨⟨_, Heap.get?_push_size _ rfl, rfl, rfl⟩, hls.at fun o e => Heap.get?_push_of_some _ e⟩ (F.push _) (fun p hp => ⟨Heap.get?_push_of_some _ (N p hp).1, (N p hp).2⟩) J h0
    (fun b hb hn => .inr ⟨PySem.W.listOf vs.toArray n, fun i m₁ news₁ hj => by
      rcases List.mem_cons.mp hb with e | e
      · exact absurd e hn
      · rw [List.mem_singleton.mp e]; exact hJ i m₁ news₁ hj⟩)
    (fun i s' v Q' E' st h => letGo_listiter st.1 h) ?_ (fun m₁ news₁ h tk hJ F₁ N₁ => done m₁ news₁ h tk hJ F₁ N₁) hE
  intro i v m₁ news₁ h tk oI hi hv hJ ha F₁ N₁
  exact turn i v m₁ news₁ h tk _ oI (by simpa using hv) hlt hJ ha F₁ N₁
end

/-- a frame's map with some of its names said -/
noncomputable def kn (m : Str → Option Value) : List (Str × Value) → Str → Option Value
  | [], y => m y
  | (a, v) :: r, y => if y = a then some v else kn m r y
theorem kn_eq {m : Str → Option Value} : ∀ {ps : List (Str × Value)}, (∀ p ∈ ps, m p.1 = some p.2) → kn m ps = m
  | [], _ => rfl
  | (a, v) :: r, h => by
    funext y
    show (if y = a then some v else kn m r y) = m y
    by_cases e : y = a
    · subst e; rw [if_pos rfl]; exact (h _ (.head _)).symm
    · rw [if_neg e, kn_eq fun p hp => h p (.tail _ hp)]
theorem knows {h₀ h : Heap} {L : Addr} {m : Str → Option Value} (F : Fr h₀ L h m) (ps : List (Str × Value)) (hp : ∀ p ∈ ps, m p.1 = some p.2) : Fr h₀ L h (kn m ps) := by rw [kn_eq hp]; exact F
theorem knows1 {h₀ h : Heap} {L : Addr} {m : Str → Option Value} {a : Str} {u : Value} (F : Fr h₀ L h m) (e : m a = some u) : Fr h₀ L h (fun y => if y = a then some u else m y) := knows F [(a, u)] (by simpa using e)
theorem knows2 {h₀ h : Heap} {L : Addr} {m : Str → Option Value} {a b : Str} {u v : Value} (F : Fr h₀ L h m) (e : m a = some u) (e2 : m b = some v) : Fr h₀ L h (fun y => if y = a then some u else if y = b then some v else m y) := knows F [(a, u), (b, v)] (by simp [e, e2])
theorem knows3 {h₀ h : Heap} {L : Addr} {m : Str → Option Value} {a b c : Str} {u v x : Value} (F : Fr h₀ L h m) (e : m a = some u) (e2 : m b = some v) (e3 : m c = some x) :
    Fr h₀ L h (fun y => if y = a then some u else if y = b then some v else if y = c then some x else m y) := knows F [(a, u), (b, v), (c, x)] (by simp [e, e2, e3])
theorem knows4 {h₀ h : Heap} {L : Addr} {m : Str → Option Value} {a b c d : Str} {u v x z : Value} (F : Fr h₀ L h m) (e : m a = some u) (e2 : m b = some v) (e3 : m c = some x) (e4 : m d = some z) :
    Fr h₀ L h (fun y => if y = a then some u else if y = b then some v else if y = c then some x else if y = d then some z else m y) := knows F [(a, u), (b, v), (c, x), (d, z)] (by simp [e, e2, e3, e4])
theorem knows5 {h₀ h : Heap} {L : Addr} {m : Str → Option Value} {a b c d g : Str} {u v x z t : Value} (F : Fr h₀ L h m) (e : m a = some u) (e2 : m b = some v) (e3 : m c = some x) (e4 : m d = some z) (e5 : m g = some t) :
    Fr h₀ L h (fun y => if y = a then some u else if y = b then some v else if y = c then some x else if y = d then some z else if y = g then some t else m y) := knows F [(a, u), (b, v), (c, x), (d, z), (g, t)] (by simp [e, e2, e3, e4, e5])
theorem apart_set {l I : Addr} {o o' : Obj} {news : List (Addr × Obj)} (ha : ∀ p ∈ (l, o) :: news, p.1 ≠ I) : ∀ p ∈ (l, o') :: news, p.1 ≠ I :=
  fun p hp => (List.mem_cons.mp hp).elim (fun e => by rw [e]; exact ha (l, o) (.head _)) fun h => ha p (.tail _ h)
theorem fm {a b : Int} (h : 0 ≤ b) : a.fmod b = a % b := Int.fmod_eq_emod_of_nonneg _ h
theorem fd {a b : Int} (h : 0 ≤ b) : a.fdiv b = a / b := Int.fdiv_eq_ediv_of_nonneg _ h
theorem ints_snoc {vs : List Value} {ns : List Int} {x y : Int} {t : Tok} (h : IntsAre vs ns) (e : x = y) : IntsAre (vs ++ [.int x t]) (ns ++ [y]) := h.append (e ▸ .cons _ _ .nil)

/-! ## a while -/
def WhileEnd (h₀ : Heap) (L : Addr) (J : Nat → (Str → Option Value) → List (Addr × Obj) → Prop) (k : Nat) (s₀ s₂ : Shared) : Prop :=
  ∃ k' h' tk m' news', k' < k ∧ s₂ = { s₀ with heap := h', toks := tk } ∧ Fr h₀ L h' m' ∧ News h₀ L h' news' ∧ J k' m' news'
def WhileAt (h₀ : Heap) (L : Addr) (J : Nat → (Str → Option Value) → List (Addr × Obj) → Prop) (k : Nat) (s₀ : Shared) (Q : Flow → Shared → Prop) (f : Flow) (s₂ : Shared) : Prop :=
  match f with
  | .ret v => Q (.ret v) s₂
  | .brk => Q .next s₂
  | _ => WhileEnd h₀ L J k s₀ s₂
theorem WhileEnd.intro {h₀ : Heap} {L : Addr} {J : Nat → (Str → Option Value) → List (Addr × Obj) → Prop} {k k' : Nat} {s₀ s₁ : Shared} {h' : Heap} {tk : Nat} {m' : Str → Option Value} {led news' : List (Addr × Obj)}
    (F : Fr h₀ L h' m') (N : News h₀ L h' led) (hs : ∀ p ∈ news', p ∈ led) (hk : k' < k) (j : J k' m' news') (e : ({ s₁ with heap := h', toks := tk } : Shared) = { s₀ with heap := h', toks := tk }) :
    WhileEnd h₀ L J k s₀ { s₁ with heap := h', toks := tk } := ⟨k', h', tk, m', news', hk, e, F, cb_drop N hs, j⟩

theorem exec_while {prog : Program} {w : World} {A : Around} {E : Value → Shared → Prop} {s : Shared} {env : Env} {h₀ : Heap} {test : Expr} {body : List Stmt} {pos : Pos} {Q : Flow → Shared → Prop} {m : Str → Option Value} {news : List (Addr × Obj)}
    (F : Fr h₀ env.locals s.heap m) (N : News h₀ env.locals s.heap news) (J : Nat → (Str → Option Value) → List (Addr × Obj) → Prop) (k : Nat) (h0 : J k m news)
    (turn : ∀ k m₁ news₁ h tk, J k m₁ news₁ → Fr h₀ env.locals h m₁ → News h₀ env.locals h news₁ →
      wpAny (model prog w) A (isTrue test env (eval test env)) (fun b s₂ => if b then wpAny (model prog w) A (execs body env) (WhileAt h₀ env.locals J k s Q) E s₂ else Q .next s₂) E { s with heap := h, toks := tk })
    (hE : PassesOwn (model prog w) A env E) :
    wpAny (model prog w) A (exec (.While test body [] pos) env) Q E s := by
  refine wpAny_While ?_
  refine codeAny_whileLoop (fun k s' => ∃ h' tk m' news', s' = { s with heap := h', toks := tk } ∧ Fr h₀ env.locals h' m' ∧ News h₀ env.locals h' news' ∧ J k m' news') ?_ k ⟨s.heap, s.toks, m, news, rfl, F, N, h0⟩
  rintro k s' ⟨h', tk, m', news', rfl, F', N', hj⟩
  refine wpAny_mono (turn k m' news' h' tk hj F' N') (fun b s₂ h₂ => ?_) hE
  cases b with
  | false => exact wpAny_execs_nil h₂
  | true =>
    refine wpAny_mono h₂ (fun f s₃ h₃ => ?_) hE
    cases f with
    | ret v => exact h₃
    | brk => exact h₃
    | next => obtain ⟨k', g, tk', m₂, n₂, hk, e, F₂, N₂, j⟩ := h₃; exact ⟨k', hk, g, tk', m₂, n₂, e, F₂, N₂, j⟩
    | cont => obtain ⟨k', g, tk', m₂, n₂, hk, e, F₂, N₂, j⟩ := h₃; exact ⟨k', hk, g, tk', m₂, n₂, e, F₂, N₂, j⟩

/-- a mark: the walk stops here -/
def Stop (P : Prop) : Prop := P
theorem Stop.intro {P : Prop} (h : Stop P) : P := h
theorem Stop.out {P : Prop} (h : P) : Stop P := h
theorem WhileAt.next {h₀ : Heap} {L : Addr} {J : Nat → (Str → Option Value) → List (Addr × Obj) → Prop} {k : Nat} {s₀ : Shared} {Q : Flow → Shared → Prop} {s₂ : Shared} (h : WhileEnd h₀ L J k s₀ s₂) : WhileAt h₀ L J k s₀ Q .next s₂ := h
theorem WhileAt.brk {h₀ : Heap} {L : Addr} {J : Nat → (Str → Option Value) → List (Addr × Obj) → Prop} {k : Nat} {s₀ : Shared} {Q : Flow → Shared → Prop} {s₂ : Shared} (h : Q .next s₂) : WhileAt h₀ L J k s₀ Q .brk s₂ := h
theorem WhileAt.ret {h₀ : Heap} {L : Addr} {J : Nat → (Str → Option Value) → List (Addr × Obj) → Prop} {k : Nat} {s₀ : Shared} {Q : Flow → Shared → Prop} {v : Value} {s₂ : Shared} (h : Q (.ret v) s₂) : WhileAt h₀ L J k s₀ Q (.ret v) s₂ := h
theorem TurnAt.brk {h₀ : Heap} {L I : Addr} {oI : Obj} {J : (Str → Option Value) → List (Addr × Obj) → Prop} {s₀ : Shared} {Q : Flow → Shared → Prop} {s₂ : Shared} (h : Q .next s₂) : TurnAt h₀ L I oI J s₀ Q .brk s₂ := h
theorem TurnAt.ret {h₀ : Heap} {L I : Addr} {oI : Obj} {J : (Str → Option Value) → List (Addr × Obj) → Prop} {s₀ : Shared} {Q : Flow → Shared → Prop} {v : Value} {s₂ : Shared} (h : Q (.ret v) s₂) : TurnAt h₀ L I oI J s₀ Q (.ret v) s₂ := h
/-- where the ways of a statement meet again -/
def JoinAt (J : Shared → Prop) (Q : Flow → Shared → Prop) (f : Flow) (s' : Shared) : Prop := match f with
  | .next => J s'
  | f => Q f s'
def JoinEnd (J : Shared → Prop) (s' : Shared) : Prop := J s'
theorem JoinAt.next {J : Shared → Prop} {Q : Flow → Shared → Prop} {s' : Shared} (h : JoinEnd J s') : JoinAt J Q .next s' := h
theorem JoinAt.ret {J : Shared → Prop} {Q : Flow → Shared → Prop} {v : Value} {s' : Shared} (h : Q (.ret v) s') : JoinAt J Q (.ret v) s' := h
theorem JoinAt.brk {J : Shared → Prop} {Q : Flow → Shared → Prop} {s' : Shared} (h : Q .brk s') : JoinAt J Q .brk s' := h
theorem JoinEnd.intro {J : Shared → Prop} {s' : Shared} (h : J s') : JoinEnd J s' := h
theorem join {prog : Program} {w : World} {A : Around} {env : Env} {st : Stmt} {rest : List Stmt} {Q : Flow → Shared → Prop} {E : Value → Shared → Prop} {s : Shared} (J : Shared → Prop) (h1 : ∀ s', J s' → wpAny (model prog w) A (execs rest env) Q E s') (h2 : wpAny (model prog w) A (exec st env) (JoinAt J Q) E s) :
    wpAny (model prog w) A (execs (st :: rest) env) Q E s :=
  wpAny_execs_cons (wpAny_mono h2 (fun f s' h => by cases f <;> first | exact h1 _ h | exact h) fun _ _ h => h)
theorem joinT {prog : Program} {w : World} {A : Around} {env : Env} {st : Stmt} {rest : List Stmt} {Q : Flow → Shared → Prop} {E : Value → Shared → Prop} {h : Heap} {g : Array GenState} {d : Drawn} {t : Nat} {o : OsState} (P : Prop) (h1 : P → ∀ t', wpAny (model prog w) A (execs rest env) Q E ⟨h, g, d, t', o⟩)
    (h2 : wpAny (model prog w) A (exec st env) (JoinAt (fun s' => P ∧ ∃ t', s' = ⟨h, g, d, t', o⟩) Q) E ⟨h, g, d, t, o⟩) : wpAny (model prog w) A (execs (st :: rest) env) Q E ⟨h, g, d, t, o⟩ :=
  join _ (fun s' ⟨p, t', e⟩ => e ▸ h1 p t') h2
/-- a mark: 0 stops at each «if» without else, 1 at those whose test is an «and» -/
def JoinHere (x : Int) : Prop := x = x
theorem said_4 : True := by
  k_with "my:JoinAt" => (first | refine JoinAt.next ?_ | refine JoinAt.ret ?_ | refine JoinAt.brk ?_)
  k_with "my:execs cons" => (k_here; (fail_if_success plain_pass); (with_reducible show wpAny _ _ (execs (Stmt.If _ _ [] _ :: _) _) _ _ (Shared.mk _ _ _ _ _)); (with_reducible rename JoinHere 0 => hJ9); refine Stop.intro ?_)
  k_with "my:execs cons" => (k_here; (fail_if_success plain_pass); (with_reducible show wpAny _ _ (execs (Stmt.If (PySem.Expr.BoolOp BoolOp.And _ _) _ [] _ :: _) _) _ _ (Shared.mk _ _ _ _ _)); (with_reducible rename JoinHere 1 => hJ9); refine Stop.intro ?_)
  k_with "my:WhileAt" => (first | refine WhileAt.next ?_ | refine WhileAt.brk ?_ | refine WhileAt.ret ?_)
  k_with "my:TurnAt" => (first | refine TurnAt.next ?_ | refine TurnAt.brk ?_ | refine TurnAt.ret ?_)
  k_with "my:exec While Compare cons nil" => (k_here; (fail_if_success plain_pass); refine Stop.intro ?_)
  k_with "my:exec While UnaryOp cons nil" => (k_here; (fail_if_success plain_pass); refine Stop.intro ?_)
  trivial

theorem part_04 : True := by
  w_top off
  trivial
theorem said_5 : True := by
  k_with "my:exec For Name Name cons nil" => (k_here; refine exec_for ?_ (fun _ => rfl))
  k_with "my:exec For Name Call cons nil" => (k_here; refine exec_for ?_ (fun _ => rfl))
  k_with "my:exec For Name List cons nil" => (k_here; refine exec_for ?_ (fun _ => rfl))
  k_with "my:exec For Tuple" => (k_here; refine exec_for ?_ (fun _ => rfl))
  k_with "my:binaryOp LShift int int" => (k_here; refine lshift_int (by decide) (kbm_shl (m := 1048600) (by assumption) (by decide) (by decide)) ?_)
  trivial
theorem and_low (k : Nat) : ∀ (a r : Int), 0 ≤ r → r < 2 ^ k → Builtin.bitAnd (a * 2 ^ k) r = 0 := by
  induction k with
  | zero =>
    intro a r h0 h1
    have : r = 0 := by simp at h1; omega
    subst this
    rw [PyProof.Rows.bitAnd_comm]
    have := PyProof.Rows.bitAnd_range (a * 2 ^ 0) (y := 0) (by omega)
    rw [PyProof.Rows.bitAnd_comm] at this
    omega
  | succ k ih =>
    intro a r h0 h1
    have e : a * 2 ^ (k + 1) = 2 * (a * 2 ^ k) := by rw [Int.pow_succ]; simp only [Int.mul_comm, Int.mul_left_comm]
    rw [PySem.W.kbt_halves, e]
    have e1 : 2 * (a * 2 ^ k) / 2 = a * 2 ^ k := by omega
    have e2 : 2 * (a * 2 ^ k) % 2 = 0 := by omega
    rw [e1, e2, ih a (r / 2) (by omega) (by rw [Int.pow_succ] at h1; omega)]
    simp
theorem or_low (k : Nat) (a r : Int) (h0 : 0 ≤ r) (h1 : r < 2 ^ k) : Builtin.bitOr (a * 2 ^ k) r = a * 2 ^ k + r := by
  rw [PyProof.Rows.bitOr_and, and_low k a r h0 h1]; omega

/-- the number that octets tell -/
noncomputable def whole (ks : List Int) : Int := ks.foldl (fun a k => 256 * a + k) 0
theorem whole_snoc (ks : List Int) (k : Int) : whole (ks ++ [k]) = 256 * whole ks + k := by simp [whole]
theorem whole_take (ks : List Int) (i : Nat) (k : Int) (h : ks[i]? = some k) : whole (ks.take (i + 1)) = 256 * whole (ks.take i) + k := by
  rw [List.take_add_one, h]; exact whole_snoc _ _
theorem whole_bound (ks : List Int) (hk : ∀ k ∈ ks, 0 ≤ k ∧ k < 256) : 0 ≤ whole ks ∧ whole ks < 256 ^ ks.length := by
  suffices h : ∀ n, ∀ ks : List Int, ks.length = n → (∀ k ∈ ks, 0 ≤ k ∧ k < 256) → 0 ≤ whole ks ∧ whole ks < 256 ^ n from h _ ks rfl hk
  clear hk ks
  intro n
  induction n with
  | zero => intro ks hl _; cases ks with
    | nil => exact ⟨by decide, by decide⟩
    | cons _ _ => cases hl
  | succ n ih =>
    intro ks hl hk
    rcases List.eq_nil_or_concat ks with rfl | ⟨l, x, rfl⟩
    · cases hl
    · rw [List.concat_eq_append] at *
      rw [whole_snoc]
      obtain ⟨h1, h2⟩ := ih l (by simpa using hl) fun k hk' => hk k (by simp [hk'])
      have h3 := hk x (by simp)
      rw [Int.pow_succ]
      constructor
      · omega
      · omega

theorem bits_whole (ks : List Int) (hk : ∀ k ∈ ks, 0 ≤ k ∧ k < 256) (hl : ks.length ≤ 16) : Builtin.Int.intBits (whole ks) ≤ 1048600 := by
  refine Nat.le_trans ((intBits_le_iff (m := 128)).mpr ?_) (by decide)
  obtain ⟨h1, h2⟩ := whole_bound ks hk
  have h3 : (256 : Int) ^ ks.length ≤ 256 ^ 16 := by
    have := Nat.pow_le_pow_right (show 0 < 256 by decide) hl
    exact_mod_cast this
  have h4 : (256 : Int) ^ 16 = ((2 ^ 128 : Nat) : Int) := by decide
  omega

theorem number_of_c (w : World) (news : List (Addr × Obj)) (b : Array UInt8) (ks : List Int) (t : Tok) (hb : KBw.bInts b = ks) (hlen : ks.length ≤ 16) :
    Called w 65 2 16 [.bytes b t] news (fun _ => True) (IsInt (whole ks)) := by
  refine of_heldQ ?_
  simp (disch := (refine anchorQ ?_; k_dflt (
  k_extra "my:my start"
  rename_i hret
  k_extra "my:my enter"
  k_steps
  rename Fr _ _ _ _ => F
  rename News _ _ _ _ => N
  refine for_bytes rfl hb F N (fun i m' nx => nx = news ∧ ∃ t, m' (Str.ofString "number") = some (.int (whole (ks.take i)) t)) ⟨rfl, _, rfl⟩ ?_ ?_ (by with_unfolding_all passes_own) (by intro _ _; rfl)
  · intro i k t m₁ news₁ h tk I oI hi hk0 hk1 hlt hpt13 ha F N
    (try k_extra "my:my fold")
    obtain ⟨rfl, t', he⟩ := hpt13
    have F := knows1 F he
    have hbits : Builtin.Int.intBits (whole (ks.take i)) ≤ 1048600 := bits_whole _ (fun k hk => by subst hb; exact KBw.ints_in (List.mem_of_mem_take hk)) (by rw [List.length_take]; omega)
    k_steps
    refine TurnEnd.intro (by k_asm) (by k_asm) (by k_mem) (by k_extra "my:my sub") ha ⟨rfl, val_int rfl ?_⟩ rfl
    rw [whole_take ks i k hi]
    have := or_low 8 (whole (ks.take i)) k hk0 (by simpa using hk1)
    rw [Int.mul_comm 256]
    exact this
  · intro m₁ news₁ h tk hpt4 F N
    (try k_extra "my:my fold")
    obtain ⟨rfl, t', he⟩ := hpt4
    have F := knows1 F he
    k_steps
    rw [List.take_length]
    exact ret0 hret (by k_asm) (by k_asm) (by k_extra "my:my sub") (IsInt.of rfl)))) only [↓heldQ_eq]
theorem said_6 : True := by
  k_with "my:call ref" => (k_here; (fail_if_success plain_pass); (with_reducible show wpAny _ _ (call (Value.ref 65) _) _ _ _); k_dflt ( refine' Called.useI ?k1 ?k2 ?k3 ?k4 ?k5 ?k6 (number_of_c _ _ _ _ _ ?kp ?kq) trivial ?kd ?ku ?_; k_extra "my:my facts"; (case kp => first | assumption | kba_ints); (case kq => first | omega | (simp only [List.length_take, List.length_drop, List.length_cons, List.length_nil]; omega)); intro t9 h9 tk9 F9 N9; (try dsimp only); (try k_extra "my:my fold")))
  trivial

theorem part_05 : True := by
  w_top off
  trivial
theorem getD_lt {α : Type} {ks : List α} {d : α} {i : Nat} (h : i < ks.length) : ks.getD i d = ks[i] := by simp [List.getD, h]
theorem getD_ge {α : Type} {ks : List α} {d : α} {i : Nat} (h : ks.length ≤ i) : ks.getD i d = d := by simp [List.getD, h]
theorem bytes_in {b : Array UInt8} {ks : List Int} (hb : KBw.bInts b = ks) : ∀ k ∈ ks, 0 ≤ k ∧ k < 256 := by subst hb; exact fun k hk => KBw.ints_in hk
theorem getD_in {ks : List Int} (h : ∀ k ∈ ks, 0 ≤ k ∧ k < 256) (i : Nat) : 0 ≤ ks.getD i 0 ∧ ks.getD i 0 < 256 := by
  by_cases hi : i < ks.length
  · rw [getD_lt hi]; exact h _ (List.getElem_mem hi)
  · rw [getD_ge (by omega)]; omega
theorem cut_two {ks : List Int} {i : Nat} (h : i + 2 ≤ ks.length) : (ks.drop i).take 2 = [ks.getD i 0, ks.getD (i + 1) 0] := by
  rw [List.drop_eq_getElem_cons (by omega), List.take_succ_cons, List.drop_eq_getElem_cons (by omega), List.take_succ_cons, List.take_zero, getD_lt (show i < ks.length by omega), getD_lt (show i + 1 < ks.length by omega)]
theorem whole_two (a b : Int) : whole [a, b] = 256 * a + b := by simp [whole]
theorem and_place (x : Int) (h : 0 ≤ x ∧ x < 65536) : Builtin.bitAnd x 65528 = x / 8 * 8 := by
  have m : Builtin.bitAnd (x / 2 / 2 / 2) 8191 = (x / 2 / 2 / 2) % 8192 := by
    have := PySem.W.kbt_mask (x / 2 / 2 / 2) 13
    simpa using this
  rw [PySem.W.kbt_halves, PySem.W.kbt_halves, PySem.W.kbt_halves]
  rw [show ((65528 : Int) / 2 / 2 / 2) = 8191 from by decide, m]
  simp only [show ((65528 : Int) % 2 = 1) = False from by decide, show ((65528 : Int) / 2 % 2 = 1) = False from by decide, show ((65528 : Int) / 2 / 2 % 2 = 1) = False from by decide, and_false, if_false]
  omega

theorem place_at_c (w : World) (news : List (Addr × Obj)) (b : Array UInt8) (ks : List Int) (at_ : Int) (t t1 : Tok) (hb : KBw.bInts b = ks) (hlen : ks.length < 70000) (hs : 0 ≤ at_ ∧ at_ + 4 ≤ ks.length) :
    Called w 112 4 32 [.bytes b t, .int at_ t1] news (fun _ => True) (IsInt ((256 * ks.getD (at_ + 2).toNat 0 + ks.getD (at_ + 3).toNat 0) / 8 * 8)) := by
  refine of_heldQ ?_
  simp (disch := (refine anchorQ ?_; k_dflt (
  k_extra "my:my start"
  rename_i hret
  k_extra "my:my enter"
  k_steps
  rename KBw.bInts _ = List.take _ _ => hK
  have e1 : clipAt ks.length (at_ + 2) = (at_ + 2).toNat := clipAt_in (by omega) (by omega)
  have e2 : clipAt ks.length (at_ + 4) = (at_ + 4).toNat := clipAt_in (by omega) (by omega)
  have e3 : (at_ + 4).toNat - (at_ + 2).toNat = 2 := by omega
  have e4 : (at_ + 3).toNat = (at_ + 2).toNat + 1 := by omega
  rw [e1, e2, e3, cut_two (by omega), ← e4] at hK
  k_steps
  refine ret0 hret (by k_asm) (by k_asm) (by k_extra "my:my sub") (IsInt.of ?_)
  rw [whole_two]
  have h1 := getD_in (bytes_in hb) (at_ + 2).toNat
  have h2 := getD_in (bytes_in hb) (at_ + 3).toNat
  exact and_place _ (by omega)))) only [↓heldQ_eq]
theorem said_7 : True := by
  k_with "my:call ref" => (k_here; (fail_if_success plain_pass); (with_reducible show wpAny _ _ (call (Value.ref 112) _) _ _ _); k_dflt ( refine' Called.useI ?k1 ?k2 ?k3 ?k4 ?k5 ?k6 (place_at_c _ _ _ _ _ _ _ ?kp ?kq ?kr) trivial ?kd ?ku ?_; k_extra "my:my facts"; (case kp => first | assumption | kba_ints); (case kq => omega); (case kr => constructor <;> omega); intro t9 h9 tk9 F9 N9; (try dsimp only); (try k_extra "my:my fold")))
  trivial

theorem part_06 : True := by
  w_top off
  trivial
noncomputable def dig (ns : List Int) (k : Nat) : Int := ns.getD k 0
theorem law_digit_c (w : World) (news : List (Addr × Obj)) (l : Addr) (vs : List Value) (ns : List Int) (k : Int) (t : Tok) (hi : IntsAre vs ns) (hlen : ns.length < 64) (hk : 0 ≤ k ∧ k < 100) :
    Called w 154 2 16 [.ref l, .int k t] news (fun base => base.IsList l vs.toArray) (IsInt (dig ns k.toNat)) := by
  refine of_heldQ ?_
  simp (disch := (refine anchorQ ?_; k_dflt (
  k_extra "my:my start"
  rename_i hret
  k_extra "my:my enter"
  k_steps
  all_goals (refine ret0 hret (by k_asm) (by k_asm) (by k_extra "my:my sub") (IsInt.of ?_))
  all_goals (unfold dig)
  · rfl
  · rw [getD_ge (by omega)]))) only [↓heldQ_eq]
theorem said_8 : True := by
  k_with "my:call ref" => (k_here; (fail_if_success plain_pass); (with_reducible show wpAny _ _ (call (Value.ref 154) _) _ _ _); k_dflt ( refine' Called.useI ?k1 ?k2 ?k3 ?k4 ?k5 ?k6 (law_digit_c _ _ _ _ _ _ _ ?kp ?kq ?kr) ?kb ?kd ?ku ?_; k_extra "my:my facts"; (case kb => assumption); (case kp => assumption); (case kq => omega); (case kr => constructor <;> omega); intro t9 h9 tk9 F9 N9; (try dsimp only); (try k_extra "my:my fold")))
  trivial

noncomputable def lawField (d usual top : Int) : Int := if d % 16 = 15 then d / 16 else (d / 16 + usual) % top

theorem law_field_c (w : World) (news : List (Addr × Obj)) (l : Addr) (vs : List Value) (ns : List Int) (k u top : Int) (t t2 t3 : Tok) (hi : IntsAre vs ns) (hlen : ns.length < 64) (hk : 0 ≤ k ∧ k < 100) (ht : 0 < top) :
    Called w 161 4 32 [.ref l, .int k t, .int u t2, .int top t3] news (fun base => base.IsList l vs.toArray) (IsInt (lawField (dig ns k.toNat) u top)) := by
  refine of_heldQ ?_
  simp (disch := (refine anchorQ ?_; k_dflt (
  k_extra "my:my start"
  rename_i hret
  k_extra "my:my enter"
  k_steps
  all_goals (refine ret0 hret (by k_asm) (by k_asm) (by k_extra "my:my sub") (IsInt.of ?_))
  all_goals (unfold lawField; rw [Int.fdiv_eq_ediv_of_nonneg _ (by decide)])
  · rename (dig ns k.toNat).fmod 16 = 15 => hw
    rw [Int.fmod_eq_emod_of_nonneg _ (by decide)] at hw
    rw [if_pos hw]
  · rename (dig ns k.toNat).fmod 16 ≠ 15 => hw
    rw [Int.fmod_eq_emod_of_nonneg _ (by decide)] at hw
    rw [if_neg hw, Int.fmod_eq_emod_of_nonneg _ (by omega)]))) only [↓heldQ_eq]
theorem said_9 : True := by
  k_with "my:call ref" => (k_here; (fail_if_success plain_pass); (with_reducible show wpAny _ _ (call (Value.ref 161) _) _ _ _); k_dflt ( refine' Called.useI ?k1 ?k2 ?k3 ?k4 ?k5 ?k6 (law_field_c _ _ _ _ _ _ _ _ _ _ _ ?kp ?kq ?kr ?ks) ?kb ?kd ?ku ?_; k_extra "my:my facts"; (case kb => assumption); (case kp => assumption); (case kq => omega); (case kr => constructor <;> omega); (case ks => first | omega | decide); intro t9 h9 tk9 F9 N9; (try dsimp only); (try k_extra "my:my fold")))
  trivial

theorem law_size_c (w : World) (news : List (Addr × Obj)) (k s2 : Int) (t t2 : Tok) (hs : 0 ≤ s2 ∧ s2 < 256) :
    Called w 182 2 16 [.int k t, .int s2 t2] news (fun base => True) (IsInt (hsize k s2)) := by
  refine of_heldQ ?_
  simp (disch := (refine anchorQ ?_; k_dflt (
  k_extra "my:my start"
  rename_i hret
  k_extra "my:my enter"
  k_steps
  all_goals (try rw [any_three] at *)
  all_goals (simp only [decide_eq_true_eq, decide_eq_false_iff_not] at *)
  all_goals (refine ret0 hret (by k_asm) (by k_asm) (by k_extra "my:my sub") (IsInt.of ?_); clear hret; unfold hsize)
  all_goals ((repeat' split) <;> first | rfl | omega | simp_all)))) only [↓heldQ_eq]
theorem said_10 : True := by
  k_with "my:call ref" => (k_here; (fail_if_success plain_pass); (with_reducible show wpAny _ _ (call (Value.ref 182) _) _ _ _); k_dflt ( refine' Called.useI ?k1 ?k2 ?k3 ?k4 ?k5 ?k6 (law_size_c _ _ _ _ _ _ ?kp) trivial ?kd ?ku ?_; k_extra "my:my facts"; (case kp => first | assumption | omega | (constructor <;> omega)); intro t9 h9 tk9 F9 N9; (try dsimp only); (try k_extra "my:my fold")))
  trivial

theorem part_07 : True := by
  w_top off
  trivial
noncomputable def some_ (d : Int) (many : Nat) (shift : Int) : List Int := (List.range many).map fun (i : Nat) => (d / 256 ^ i + 37 * (i : Int) + shift) % 256
theorem some_zero (d shift : Int) : some_ d 0 shift = [] := rfl
theorem some_succ (d : Int) (i : Nat) (shift : Int) : some_ d (i + 1) shift = some_ d i shift ++ [(d / 256 ^ i + 37 * (i : Int) + shift) % 256] := by simp [some_, List.range_succ]

theorem some_length (d : Int) (i : Nat) (shift : Int) : (some_ d i shift).length = i := by simp [some_]
theorem law_some_c (w : World) (news : List (Addr × Obj)) (d many shift : Int) (n : Nat) (t t2 t3 : Tok) (hm : many = (n : Int)) (hn : n < 100) :
    Called w 168 2 32 [.int d t, .int many t2, .int shift t3] news (fun base => True) (IsInts (some_ d n shift) news) := by
  refine of_heldQ ?_
  simp (disch := (refine anchorQ ?_; k_dflt (
  k_extra "my:my start"
  rename_i hret
  k_extra "my:my enter"
  k_steps
  rename IsRange _ _ _ _ _ _ _ _ => hr
  rename Fr _ _ _ _ => F
  rename News _ _ _ _ => N
  rename ∀ p ∈ news, p.1 < _ => hl
  refine for_range rfl hr hm (by omega) F N (fun i m' nx => ∃ vs c, nx = (_, PySem.W.listOf vs.toArray c) :: news ∧ IntsAre vs (some_ d i shift) ∧ (∃ t, m' (Str.ofString "digit") = some (.int (d / 256 ^ i) t)) ∧ m' (Str.ofString "out") = some (.ref _) ∧ m' (Str.ofString "shift") = some (.int shift t3))
    ⟨[], 0, rfl, by rw [some_zero]; exact .nil, val_int rfl (by simp), rfl, rfl⟩ ?_ ?_ (by with_unfolding_all passes_own) (by intro _ _; rfl)
  · intro i t m₁ news₁ h tk I oI hi hlt hpt10 ha F N
    (try k_extra "my:my fold")
    obtain ⟨vs, c, rfl, hv, ⟨td, e1⟩, e2, e3⟩ := hpt10
    have F := knows3 F e1 e2 e3
    have hI := ltN (hlt _ (.head _))
    dsimp only at hI
    have hvl := hv.length
    rw [some_length] at hvl
    k_steps
    rename News _ _ _ (_ :: (_, PySem.W.listOf (Array.push _ _) _) :: _) => N'
    (try dsimp +zetaDelta only at N')
    rw [List.push_toArray] at N'
    refine TurnEnd.intro (by k_asm) N' (by k_mem) (by k_extra "my:my sub") (apart_set ha) ⟨_, _, rfl, by rw [some_succ]; exact ints_snoc hv (fm (by decide)), val_int rfl ?_, rfl, rfl⟩ rfl
    rw [fd (by decide), Int.pow_succ, Int.ediv_ediv_of_nonneg (by exact Int.le_of_lt (Int.pow_pos (by decide)))]
  · intro m₁ news₁ h tk hpt4 F N
    (try k_extra "my:my fold")
    obtain ⟨vs, c, rfl, hv, ⟨td, e1⟩, e2, e3⟩ := hpt4
    have F := knows1 F e2
    k_steps
    exact retInts hret (by k_asm) (by k_asm) (by k_mem) (by k_extra "my:my sub") hv hl))) only [↓heldQ_eq]

theorem law_whole_c (w : World) (news : List (Addr × Obj)) (l : Addr) (vs : List Value) (n : Nat) (ns : List Int) (hm : (l, PySem.W.listOf vs.toArray n) ∈ news) (hi : IntsAre vs ns) (hk : ∀ k ∈ ns, 0 ≤ k ∧ k < 256) (hl : ns.length ≤ 40) :
    Called w 175 2 32 [.ref l] news (fun base => True) (IsInt (whole ns)) := by
  refine of_heldQ ?_
  simp (disch := (refine anchorQ ?_; k_dflt (
  k_extra "my:my start"
  rename_i hret
  k_extra "my:my enter"
  k_steps
  rename Fr _ _ _ _ => F
  rename News _ _ _ _ => N
  refine for_list rfl F N hm (fun i m' nx => nx = news ∧ ∃ t, m' (Str.ofString "whole") = some (.int (whole (ns.take i)) t)) ⟨rfl, _, rfl⟩ (by rintro i m₁ news₁ ⟨rfl, _⟩; exact hm) ?_ ?_ (by with_unfolding_all passes_own)
  · intro i v m₁ news₁ h tk I oI hv hlt hpt10 ha F N
    (try k_extra "my:my fold")
    obtain ⟨rfl, t', he⟩ := hpt10
    have F := knows1 F he
    obtain ⟨k, tk', rfl, hk'⟩ := hi.at i v hv
    k_steps
    refine TurnEnd.intro (by k_asm) (by k_asm) (by k_mem) (by k_extra "my:my sub") ha ⟨rfl, val_int rfl ?_⟩ rfl
    rw [whole_take ns i k hk']
  · intro m₁ news₁ h tk hpt4 F N
    (try k_extra "my:my fold")
    obtain ⟨rfl, t', he⟩ := hpt4
    have F := knows1 F he
    k_steps
    rw [hi.length, List.take_length]
    exact ret0 hret (by k_asm) (by k_asm) (by k_extra "my:my sub") (IsInt.of rfl)))) only [↓heldQ_eq]
theorem law_some_i (w : World) (news : List (Addr × Obj)) (d many shift : Int) (t t2 t3 : Tok) (hm : 0 ≤ many ∧ many < 100) :
    Called w 168 2 32 [.int d t, .int many t2, .int shift t3] news (fun base => True) (IsInts (some_ d many.toNat shift) news) := law_some_c w news d many shift many.toNat t t2 t3 (Int.toNat_of_nonneg hm.1).symm (by omega)
theorem said_11 : True := by
  k_with "my:call ref" => (k_here; (fail_if_success plain_pass); (with_reducible show wpAny _ _ (call (Value.ref 168) _) _ _ _); k_dflt ( refine' Called.useS ?k1 ?k2 ?k3 ?k4 ?k5 ?k6 (law_some_i _ _ _ _ _ _ _ _ ?kp) trivial ?kd ?ku ?_; k_extra "my:my facts"; (case kp => first | (constructor <;> omega) | (rw [fm (by decide)]; constructor <;> omega)); intro l9 vs9 n9 h9 tk9 F9 N9 i9 lt9; (try dsimp only); (try k_lt lt9); (try k_extra "my:my fold")))
  k_with "my:call ref" => (k_here; (fail_if_success plain_pass); (with_reducible show wpAny _ _ (call (Value.ref 175) _) _ _ _); k_dflt ( refine' Called.useI ?k1 ?k2 ?k3 ?k4 ?k5 ?k6 (law_whole_c _ _ _ _ _ _ ?kp ?kq ?kr ?ks) trivial ?kd ?ku ?_; k_extra "my:my facts"; (case kp => first | assumption | k_mem); (case kq => first | assumption | l_ints); (case kr => assumption); (case ks => first | omega | (simp only [List.length_take, List.length_append, List.length_drop]; omega)); intro t9 h9 tk9 F9 N9; (try dsimp only); (try k_extra "my:my fold")))
  trivial

theorem part_08 : True := by
  w_top off
  trivial
/-! ## the walk along the octets, plain -/
abbrev Hd := Int × List Int
abbrev Wk := Str × List Hd × Int × List Int
noncomputable def tTrunc : Str := Str.ofString "truncated extension head"
noncomputable def tHop : Str := Str.ofString "hop-by-hop not first"
noncomputable def tNone : Str := Str.ofString ""
noncomputable def prep (hs : List Hd) (r : Wk) : Wk := (r.1, hs ++ r.2.1, r.2.2.1, r.2.2.2)
theorem prep_prep (hs js : List Hd) (r : Wk) : prep hs (prep js r) = prep (hs ++ js) r := by simp [prep, List.append_assoc]
theorem prep_nil (r : Wk) : prep [] r = r := rfl

noncomputable def walk (kind : Int) (rest : List Int) (first : Bool) : Wk :=
  if hsize kind 0 = 0 then (tNone, [], kind, rest)
  else if rest.length < 2 ∨ (rest.length : Int) < hsize kind (rest.getD 1 0) ∨ hsize kind (rest.getD 1 0) ≤ 0 then (tTrunc, [], 0, [])
  else if kind = 0 ∧ first = false then (tHop, [], 0, [])
  else if kind = 44 ∧ 256 * rest.getD 2 0 + rest.getD 3 0 > 7 then (tNone, [(kind, (rest.take (hsize kind (rest.getD 1 0)).toNat).drop 1)], rest.getD 0 0, rest.drop (hsize kind (rest.getD 1 0)).toNat)
  else prep [(kind, (rest.take (hsize kind (rest.getD 1 0)).toNat).drop 1)] (walk (rest.getD 0 0) (rest.drop (hsize kind (rest.getD 1 0)).toNat) false)
termination_by rest.length
decreasing_by
  rename_i h _ _
  rw [List.length_drop]
  omega

theorem hsize_pos {k s : Int} (h : hsize k 0 ≠ 0) (hs : 0 ≤ s) : 8 ≤ hsize k s := by
  by_cases a : k = 0 ∨ k = 43 ∨ k = 60
  · rw [hsize, if_pos a]; omega
  by_cases b : k = 51
  · rw [hsize, if_neg a, if_pos b]; omega
  by_cases c : k = 44
  · rw [hsize, if_neg a, if_neg b, if_pos c]; exact Int.le_refl _
  · exact absurd (by rw [hsize, if_neg a, if_neg b, if_neg c]) h
theorem hsize_zero {k : Int} (h : hsize k 0 = 0) (s : Int) : hsize k s = 0 := by
  by_cases a : k = 0 ∨ k = 43 ∨ k = 60
  · rw [hsize, if_pos a] at h; exact absurd h (by decide)
  by_cases b : k = 51
  · rw [hsize, if_neg a, if_pos b] at h; exact absurd h (by decide)
  by_cases c : k = 44
  · rw [hsize, if_neg a, if_neg b, if_pos c] at h; exact absurd h (by decide)
  · rw [hsize, if_neg a, if_neg b, if_neg c]
theorem hsize_le {k s : Int} (hs : 0 ≤ s ∧ s < 256) : 0 ≤ hsize k s ∧ hsize k s ≤ 2048 := by
  unfold hsize
  repeat' split <;> omega

section
variable {ks : List Int} {e at_ kind : Int} {f : Bool}
/-- what lies between two places -/
noncomputable def cut (ks : List Int) (at_ e : Int) : List Int := (ks.take e.toNat).drop at_.toNat
theorem cut_length (h0 : 0 ≤ at_) (h1 : at_ ≤ e) (h2 : e ≤ ks.length) : ((cut ks at_ e).length : Int) = e - at_ := by
  obtain ⟨a, rfl⟩ := Int.eq_ofNat_of_zero_le h0
  obtain ⟨b, rfl⟩ := Int.eq_ofNat_of_zero_le (Int.le_trans h0 h1)
  unfold cut
  rw [List.length_drop, List.length_take, Int.toNat_natCast, Int.toNat_natCast, Nat.min_eq_left (Int.ofNat_le.mp h2)]
  exact Int.ofNat_sub (Int.ofNat_le.mp h1)
theorem cut_getD (h0 : 0 ≤ at_) (h2 : e ≤ ks.length) (i : Nat) (hi : at_ + i < e) : (cut ks at_ e).getD i 0 = ks.getD (at_ + i).toNat 0 := by
  unfold cut
  have e1 : at_.toNat + i = (at_ + i).toNat := by rw [Int.toNat_add h0 (Int.natCast_nonneg _), Int.toNat_natCast]
  simp only [List.getD, List.getElem?_drop, e1]
  rw [List.getElem?_take_of_lt ((Int.toNat_lt_toNat (Int.lt_of_le_of_lt (Int.add_nonneg h0 (Int.natCast_nonneg _)) hi)).mpr hi)]
theorem cut_drop (h0 : 0 ≤ at_) (n : Int) (hn : 0 ≤ n) : (cut ks at_ e).drop n.toNat = cut ks (at_ + n) e := by
  unfold cut
  rw [List.drop_drop]
  rw [← Int.toNat_add h0 hn]
theorem cut_take (h0 : 0 ≤ at_) (n : Int) (hn : 0 ≤ n) (hle : at_ + n ≤ e) : (cut ks at_ e).take n.toNat = cut ks at_ (at_ + n) := by
  unfold cut
  rw [List.take_drop, List.take_take]
  rw [← Int.toNat_add h0 hn, Nat.min_eq_left (Int.toNat_le_toNat hle)]
theorem cut_drop1 (h0 : 0 ≤ at_) : (cut ks at_ e).drop 1 = cut ks (at_ + 1) e := cut_drop h0 1 (by decide)

theorem walk_stop {rest : List Int} (h : hsize kind 0 = 0) : walk kind rest f = (tNone, [], kind, rest) := by
  unfold walk; rw [if_pos h]

theorem sizeAt_zero (h : sizeAt ks at_ kind e = 0) (hk : ∀ k ∈ ks, 0 ≤ k ∧ k < 256) : hsize kind 0 = 0 := by
  unfold sizeAt at h
  by_cases h0 : hsize kind 0 = 0
  · exact h0
  · have := hsize_pos h0 (getD_in hk (at_ + 1).toNat).1
    rw [if_neg h0] at h
    by_cases h1 : at_ + 2 > e
    · rw [if_pos h1] at h; exact absurd h (by decide)
    · rw [if_neg h1] at h
      by_cases h2 : at_ + hsize kind (ks.getD (at_ + 1).toNat 0) > e
      · rw [if_pos h2] at h; exact absurd h (by decide)
      · rw [if_neg h2] at h; rw [h] at this; exact absurd this (by decide)
theorem sizeAt_neg (h : sizeAt ks at_ kind e < 0) (h0 : 0 ≤ at_) (h1 : at_ ≤ e) (h2 : e ≤ ks.length) (hk : ∀ k ∈ ks, 0 ≤ k ∧ k < 256) : walk kind (cut ks at_ e) f = (tTrunc, [], 0, []) := by
  have hl := cut_length (ks := ks) h0 h1 h2
  unfold sizeAt at h
  unfold walk
  have hr := hsize_le (k := kind) (getD_in hk (at_ + 1).toNat)
  by_cases hz : hsize kind 0 = 0
  · rw [if_pos hz] at h; omega
  · rw [if_neg hz] at h
    rw [if_neg hz]
    by_cases h3 : at_ + 2 > e
    · rw [if_pos (.inl (by omega))]
    · rw [if_neg h3] at h
      have hg := cut_getD (ks := ks) (at_ := at_) (e := e) h0 h2 1 (by omega)
      rw [hg]
      by_cases h4 : at_ + hsize kind (ks.getD (at_ + 1).toNat 0) > e
      · rw [if_pos (.inr (.inl (by simp only [Int.natCast_one]; omega)))]
      · rw [if_neg h4] at h; omega
theorem sizeAt_pos (h : 0 < sizeAt ks at_ kind e) (h0 : 0 ≤ at_) (h1 : at_ ≤ e) (h2 : e ≤ ks.length) (hk : ∀ k ∈ ks, 0 ≤ k ∧ k < 256) :
    at_ + 2 ≤ e ∧ 8 ≤ sizeAt ks at_ kind e ∧ at_ + sizeAt ks at_ kind e ≤ e ∧ sizeAt ks at_ kind e ≤ 2048 ∧
    walk kind (cut ks at_ e) f = if kind = 0 ∧ f = false then (tHop, [], 0, [])
      else if kind = 44 ∧ 256 * ks.getD (at_ + 2).toNat 0 + ks.getD (at_ + 3).toNat 0 > 7 then (tNone, [(kind, cut ks (at_ + 1) (at_ + sizeAt ks at_ kind e))], ks.getD at_.toNat 0, cut ks (at_ + sizeAt ks at_ kind e) e)
      else prep [(kind, cut ks (at_ + 1) (at_ + sizeAt ks at_ kind e))] (walk (ks.getD at_.toNat 0) (cut ks (at_ + sizeAt ks at_ kind e) e) false) := by
  have hl := cut_length (ks := ks) h0 h1 h2
  have hr := hsize_le (k := kind) (getD_in hk (at_ + 1).toNat)
  have e1 : hsize kind 0 ≠ 0 := fun hz => by unfold sizeAt at h; rw [if_pos hz] at h; omega
  have e2 : ¬ at_ + 2 > e := fun hz => by unfold sizeAt at h; rw [if_neg e1, if_pos hz] at h; omega
  have e3 : ¬ at_ + hsize kind (ks.getD (at_ + 1).toNat 0) > e := fun hz => by unfold sizeAt at h; rw [if_neg e1, if_neg e2, if_pos hz] at h; omega
  have es : sizeAt ks at_ kind e = hsize kind (ks.getD (at_ + 1).toNat 0) := by unfold sizeAt; rw [if_neg e1, if_neg e2, if_neg e3]
  have h8 := hsize_pos e1 (getD_in hk (at_ + 1).toNat).1
  rw [es]
  refine ⟨by omega, h8, by omega, hr.2, ?_⟩
  have g1 : (cut ks at_ e).getD 1 0 = ks.getD (at_ + 1).toNat 0 := cut_getD h0 h2 1 (by omega)
  have g0 : (cut ks at_ e).getD 0 0 = ks.getD at_.toNat 0 := by have := cut_getD (ks := ks) h0 h2 0 (by omega); simpa using this
  have g2 : (cut ks at_ e).getD 2 0 = ks.getD (at_ + 2).toNat 0 := cut_getD h0 h2 2 (by omega)
  have g3 : (cut ks at_ e).getD 3 0 = ks.getD (at_ + 3).toNat 0 := cut_getD h0 h2 3 (by omega)
  rw [walk, if_neg e1, g0, g1, g2, g3, if_neg (by omega), cut_drop h0 _ (by omega), cut_take h0 _ (by omega) (by omega), cut_drop1 h0]
end

/-- the word that the last head of a piece tells -/
noncomputable def lastWord (w : Int) (heads : List Hd) : Int := heads.foldl (fun w h => if h.1 = 44 then 256 * h.2.getD 1 0 + h.2.getD 2 0 else w) w
theorem lastWord_snoc (w : Int) (hs : List Hd) (h : Hd) : lastWord w (hs ++ [h]) = if h.1 = 44 then 256 * h.2.getD 1 0 + h.2.getD 2 0 else lastWord w hs := by simp [lastWord]

noncomputable def look (ks : List Int) : Option (Int × Int × Int × Bool) :=
  if ks.length < 40 ∨ ks.getD 0 0 / 16 ≠ 6 then none
  else
    let r := walk (ks.getD 6 0) (cut ks 40 ks.length) true
    if r.1 ≠ tNone then none
    else some (r.2.2.1, (ks.length : Int) - r.2.2.2.length, lastWord 0 r.2.1 / 8 * 8, decide (lastWord 0 r.2.1 % 2 = 1))

section
variable {ks : List Int} {at_ kind e : Int} {hs : List Hd} {R : Wk} {f : Bool}
theorem body_word (h0 : 0 ≤ at_) (sz : Int) (h1 : 4 ≤ sz) (h2 : at_ + sz ≤ ks.length) :
    256 * (cut ks (at_ + 1) (at_ + sz)).getD 1 0 + (cut ks (at_ + 1) (at_ + sz)).getD 2 0 = 256 * ks.getD (at_ + 2).toNat 0 + ks.getD (at_ + 3).toNat 0 := by
  have a := cut_getD (ks := ks) (at_ := at_ + 1) (e := at_ + sz) (by omega) h2 1 (by omega)
  have b := cut_getD (ks := ks) (at_ := at_ + 1) (e := at_ + sz) (by omega) h2 2 (by omega)
  rw [a, b]
  congr 2 <;> (congr 1; omega)

theorem step_trunc (h : sizeAt ks at_ kind e < 0) (h0 : 0 ≤ at_) (h1 : at_ ≤ e) (h2 : e ≤ ks.length) (hk : ∀ k ∈ ks, 0 ≤ k ∧ k < 256) (hR : R = prep hs (walk kind (cut ks at_ e) f)) : R.1 = tTrunc := by
  rw [hR, sizeAt_neg h h0 h1 h2 hk]; rfl
theorem step_hop (h : 0 < sizeAt ks at_ kind e) (h0 : 0 ≤ at_) (h1 : at_ ≤ e) (h2 : e ≤ ks.length) (hk : ∀ k ∈ ks, 0 ≤ k ∧ k < 256) (hR : R = prep hs (walk kind (cut ks at_ e) f)) (hz : kind = 0 ∧ f = false) : R.1 = tHop := by
  obtain ⟨_, _, _, _, e1⟩ := sizeAt_pos (f := f) h h0 h1 h2 hk
  rw [hR, e1, if_pos hz]; rfl
theorem step_stop (h : sizeAt ks at_ kind e = 0) (hk : ∀ k ∈ ks, 0 ≤ k ∧ k < 256) (hR : R = prep hs (walk kind (cut ks at_ e) f)) : R = (tNone, hs, kind, cut ks at_ e) := by
  rw [hR, walk_stop (sizeAt_zero h hk)]; simp [prep]
theorem step_last (h : 0 < sizeAt ks at_ kind e) (h0 : 0 ≤ at_) (h1 : at_ ≤ e) (h2 : e ≤ ks.length) (hk : ∀ k ∈ ks, 0 ≤ k ∧ k < 256) (hR : R = prep hs (walk kind (cut ks at_ e) f))
    (hp : kind = 44 ∧ 256 * ks.getD (at_ + 2).toNat 0 + ks.getD (at_ + 3).toNat 0 > 7) :
    R = (tNone, hs ++ [(kind, cut ks (at_ + 1) (at_ + sizeAt ks at_ kind e))], ks.getD at_.toNat 0, cut ks (at_ + sizeAt ks at_ kind e) e) := by
  obtain ⟨_, _, _, _, e1⟩ := sizeAt_pos (f := f) h h0 h1 h2 hk
  rw [hR, e1, if_neg (by omega), if_pos hp]; rfl
theorem step_on (h : 0 < sizeAt ks at_ kind e) (h0 : 0 ≤ at_) (h1 : at_ ≤ e) (h2 : e ≤ ks.length) (hk : ∀ k ∈ ks, 0 ≤ k ∧ k < 256) (hR : R = prep hs (walk kind (cut ks at_ e) f)) (hz : ¬ (kind = 0 ∧ f = false))
    (hp : ¬ (kind = 44 ∧ 256 * ks.getD (at_ + 2).toNat 0 + ks.getD (at_ + 3).toNat 0 > 7)) :
    R = prep (hs ++ [(kind, cut ks (at_ + 1) (at_ + sizeAt ks at_ kind e))]) (walk (ks.getD at_.toNat 0) (cut ks (at_ + sizeAt ks at_ kind e) e) false) := by
  obtain ⟨_, _, _, _, e1⟩ := sizeAt_pos (f := f) h h0 h1 h2 hk
  rw [hR, e1, if_neg hz, if_neg hp, prep_prep]
end
theorem tTrunc_ne : tTrunc ≠ tNone := by decide
theorem tHop_ne : tHop ≠ tNone := by decide

theorem part_09 : True := by
  w_top off
  trivial
/-- a datum, of new objects or what was handed in -/
def IsDat (d : Dat) (news : List (Addr × Obj)) : Value → List (Addr × Obj) → Prop := fun v tl => DatIn (tl ++ news) v d
noncomputable def datLook : Option (Int × Int × Int × Bool) → Dat
  | none => .none
  | some (p, a, q, m) => .tuple [.int p, .int a, .int q, .bool m]

theorem join_set {prog : Program} {w : World} {A : Around} {env : Env} {st : Stmt} {rest : List Stmt} {Q : Flow → Shared → Prop} {E : Value → Shared → Prop} {h h₀ : Heap} {g : Array GenState} {d : Drawn} {t : Nat} {o : OsState} {m : Str → Option Value} {led : List (Addr × Obj)}
    (F : Fr h₀ env.locals h m) (N : News h₀ env.locals h led) (x : Str) (V : Tok → Value)
    (h1 : ∀ h' t' k', Fr h₀ env.locals h' (fun y => if y = x then some (V t') else m y) → News h₀ env.locals h' led → wpAny (model prog w) A (execs rest env) Q E ⟨h', g, d, k', o⟩)
    (h2 : wpAny (model prog w) A (exec st env) (JoinAt (fun s' => ∃ h' t' k', s' = ⟨h', g, d, k', o⟩ ∧ Fr h₀ env.locals h' (fun y => if y = x then some (V t') else m y) ∧ News h₀ env.locals h' led) Q) E ⟨h, g, d, t, o⟩) : wpAny (model prog w) A (execs (st :: rest) env) Q E ⟨h, g, d, t, o⟩ :=
  join _ (fun s' ⟨h', t', k', e, F', N'⟩ => e ▸ h1 h' t' k' F' N') h2
theorem turn_ar {at_ e S : Int} (h : S ≤ 0 ∨ (at_ + 2 ≤ e ∧ 8 ≤ S ∧ at_ + S ≤ e ∧ S ≤ 2048)) (hz : ¬ S < 0) (hz2 : S ≠ 0) (hat : 40 ≤ at_ ∧ at_ ≤ e) :
    0 < S ∧ (40 ≤ at_ + S ∧ at_ + S ≤ e) ∧ (e - (at_ + S)).toNat < (e - at_).toNat ∧ ¬ at_ + S = 40 ∧ 0 ≤ at_ ∧ 8 ≤ S := by
  rcases h with h | h
  · exact absurd h (fun h => hz2 (Int.le_antisymm h (Int.not_lt.mp hz)))
  · clear hz hz2
    obtain ⟨-, h2, h3, -⟩ := h
    obtain ⟨h4, h5⟩ := hat
    refine ⟨?_, ⟨?_, h3⟩, ?_, ?_, ?_, h2⟩ <;> omega
theorem lt40 {a : Int} (h : 40 ≤ a) (n : ¬ a = 40) : 40 < a := by omega
theorem odd_eq (a b : Int) : (b % 2 == 1) = decide ((256 * a + b) % 2 = 1) := by
  have e : (256 * a + b) % 2 = b % 2 := by omega
  rw [e]; rfl
theorem last_no {a b : Int} (ha : 0 ≤ a) (hb : 0 ≤ b) (h : (256 * a + b) / 8 * 8 = 0) (g : 256 * a + b > 7) : False := by omega
theorem last_yes {a b : Int} (ha : 0 ≤ a) (hb : 0 ≤ b) (h : (256 * a + b) / 8 * 8 ≠ 0) : 256 * a + b > 7 := by omega
theorem size_or {ks : List Int} {at_ e : Int} (kind : Int) (hat : 40 ≤ at_ ∧ at_ ≤ e) (he : e ≤ ks.length) (hk : ∀ k ∈ ks, 0 ≤ k ∧ k < 256) :
    sizeAt ks at_ kind e ≤ 0 ∨ (at_ + 2 ≤ e ∧ 8 ≤ sizeAt ks at_ kind e ∧ at_ + sizeAt ks at_ kind e ≤ e ∧ sizeAt ks at_ kind e ≤ 2048) := by
  by_cases h : 0 < sizeAt ks at_ kind e
  · obtain ⟨a, b, c, d, _⟩ := sizeAt_pos (f := true) h (Int.le_trans (by decide) hat.1) hat.2 he hk
    exact .inr ⟨a, b, c, d⟩
  · exact .inl (Int.not_lt.mp h)
theorem said_12 : True := by
  k_with "my:execs cons" => (k_here; (fail_if_success plain_pass); (with_reducible show wpAny _ _ (execs (Stmt.If (PySem.Expr.BoolOp BoolOp.Or _ _) _ [] _ :: _) _) _ _ (Shared.mk _ _ _ _ _)); (with_reducible rename JoinHere 5 => hJ9); refine Stop.intro ?_)
  trivial
/-- what stays while look6 walks -/
inductive LookJ (ks : List Int) (b : Array UInt8) (t : Tok) (R : Wk) (news : List (Addr × Obj)) (k : Nat) (m : Str → Option Value) (nx : List (Addr × Obj)) : Prop
  | mk (at_ kind place : Int) (more : Bool) (hs : List Hd) (hnx : nx = news) (e1 : ∃ t, m (Str.ofString "at") = some (.int at_ t)) (e2 : ∃ t, m (Str.ofString "kind") = some (.int kind t)) (e3 : ∃ t, m (Str.ofString "place") = some (.int place t)) (e4 : m (Str.ofString "is_more") = some (.bool more)) (e5 : m (Str.ofString "data") = some (.bytes b t))
    (hat : 40 ≤ at_ ∧ at_ ≤ ks.length) (hk : k = (ks.length - at_).toNat) (hpl : place = lastWord 0 hs / 8 * 8) (hmo : more = decide (lastWord 0 hs % 2 = 1))
    (h0 : place = 0 → R = prep hs (walk kind (cut ks at_ ks.length) (decide (at_ = 40)))) (h1 : place ≠ 0 → R = (tNone, hs, kind, cut ks at_ ks.length)) : LookJ ks b t R news k m nx
theorem look6_c (w : World) (news : List (Addr × Obj)) (b : Array UInt8) (ks : List Int) (t : Tok) (hb : KBw.bInts b = ks) (hlen : ks.length < 70000) :
    Called w 147 8 60 [.bytes b t] news (fun _ => True) (IsDat (datLook (look ks)) news) := by
  refine of_heldQ ?_
  simp (disch := (refine anchorQ ?_; k_dflt (
  have hk := bytes_in hb
  k_extra "my:my start"
  rename_i hret
  k_extra "my:my enter"
  k_steps
  · have e : look ks = none := by unfold look; rw [if_pos (.inl (by omega))]
    rw [e] at hret
    exact ret0 hret (by k_asm) (by k_asm) (by k_extra "my:my sub") .none
  · rename Int.fdiv _ _ ≠ _ => h6
    rw [fd (by decide)] at h6
    have e : look ks = none := by unfold look; rw [if_pos (.inr h6)]
    rw [e] at hret
    exact ret0 hret (by k_asm) (by k_asm) (by k_extra "my:my sub") .none
  · rename Int.fdiv _ _ = _ => h6
    rw [fd (by decide)] at h6
    have hl40 : ¬ ks.length < 40 := by omega
    refine Stop.out ?_
    rename Fr _ _ _ _ => F
    rename News _ _ _ _ => N
    generalize hR : walk (ks.getD 6 0) (cut ks 40 ks.length) true = R
    have hlook : look ks = if R.1 ≠ tNone then none else some (R.2.2.1, (ks.length : Int) - R.2.2.2.length, lastWord 0 R.2.1 / 8 * 8, decide (lastWord 0 R.2.1 % 2 = 1)) := by
      rw [← hR]; unfold look; rw [if_neg (by intro h; rcases h with h | h; exact hl40 h; exact h h6)]
    refine exec_while F N (LookJ ks b t R news)
      (ks.length - 40) ⟨40, ks.getD 6 0, 0, false, [], rfl, val_int rfl rfl, val_int rfl rfl, val_int rfl rfl, rfl, rfl, by omega, by omega, rfl, rfl, fun _ => by rw [prep_nil, ← hR]; rfl, fun h => absurd rfl h⟩ ?_ (by with_unfolding_all passes_own)
    intro k m₁ news₁ h tk hpt5 F N
    (try k_extra "my:my fold")
    obtain ⟨at_, kind, place, more, hs, rfl, ⟨ta, e1⟩, ⟨tki, e2⟩, ⟨tp, e3⟩, e4, e5, hat, rfl, hpl, hmo, hR0, hR1⟩ := hpt5
    have F := knows5 F e1 e2 e3 e4 e5
    have h0 : 0 ≤ at_ := Int.le_trans (by decide) hat.1
    have hpos := size_or kind hat (Int.le_refl _) hk
    have hb1 := getD_in hk (at_ + 2).toNat
    have hb2 := getD_in hk (at_ + 3).toNat
    have hfin : R = (tNone, hs, kind, cut ks at_ ks.length) → look ks = some (kind, at_, place, more) := by
      intro e
      have hl := cut_length (ks := ks) (at_ := at_) (e := ks.length) (by omega) hat.2 (by omega)
      rw [hlook, e, if_neg (by simp), hpl, hmo]
      have e2 : (ks.length : Int) - (cut ks at_ ks.length).length = at_ := by omega
      simp only [e2]
    have hnone : R.1 ≠ tNone → look ks = none := fun h => by rw [hlook, if_pos h]
    have hlw : ∀ x, lastWord 0 (hs ++ [(kind, x)]) = if kind = 44 then 256 * x.getD 1 0 + x.getD 2 0 else lastWord 0 hs := fun x => lastWord_snoc 0 hs _
    have hj9 : JoinHere 5 := rfl
    k_steps
    · rename place = 0 => hp0
      have hR0 := hR0 hp0
      refine Stop.out ?_
      (try k_extra "my:my fold")
      refine joinT (¬ sizeAt ks at_ kind ks.length < 0 ∧ ¬ (kind = 0 ∧ 40 < at_)) (fun hnf tJ => ?_) ?_
      rotate_left
      · k_steps
        · rename sizeAt ks at_ kind _ < 0 => hz
          rw [hnone (by rw [step_trunc hz h0 hat.2 (Int.le_refl _) hk hR0]; exact tTrunc_ne)] at hret
          exact ret0 hret (by k_asm) (by k_asm) (by k_extra "my:my sub") .none
        · rename ¬ sizeAt ks at_ kind _ < 0 => hz
          rename kind = 0 => hk0
          rename 40 < at_ => h40
          have hne : sizeAt ks at_ kind ks.length ≠ 0 := fun h => by have := sizeAt_zero h hk; rw [hk0] at this; revert this; decide
          rw [hnone (by rw [step_hop (turn_ar hpos hz hne hat).1 h0 hat.2 (Int.le_refl _) hk hR0 ⟨hk0, decide_eq_false (Int.ne_of_gt h40)⟩]; exact tHop_ne)] at hret
          exact ret0 hret (by k_asm) (by k_asm) (by k_extra "my:my sub") .none
        · rename ¬ 40 < at_ => h40
          exact JoinEnd.intro ⟨⟨by assumption, fun h => h40 h.2⟩, _, rfl⟩
        · rename kind ≠ 0 => hk0
          exact JoinEnd.intro ⟨⟨by assumption, fun h => hk0 h.1⟩, _, rfl⟩
      obtain ⟨hz, hnk⟩ := hnf
      have hN : ¬ (kind = 0 ∧ decide (at_ = 40) = false) := fun h => hnk ⟨h.1, lt40 hat.1 (of_decide_eq_false h.2)⟩
      k_steps
      · rename sizeAt ks at_ kind _ = 0 => hz
        rw [hfin (step_stop hz hk hR0)] at hret
        exact hret _ [_] _ _ (by k_asm) (by k_asm) (.tuple (.head _) (.cons (.int _ _) (.cons (.int _ _) (.cons (.int _ _) (.cons (.bool _) .nil)))))
      · rename sizeAt ks at_ kind _ ≠ 0 => hz2
        rename kind = 44 => h44
        obtain ⟨q1, q2, q3, q4, q5, q6⟩ := turn_ar hpos hz hz2 hat
        have hbw := body_word (ks := ks) (at_ := at_) h0 (sizeAt ks at_ kind ks.length) (Int.le_trans (by decide) q6) q2.2
        have hlw2 : lastWord 0 (hs ++ [(kind, cut ks (at_ + 1) (at_ + sizeAt ks at_ kind ks.length))]) = 256 * ks.getD (at_ + 2).toNat 0 + ks.getD (at_ + 3).toNat 0 := by rw [hlw, if_pos h44, hbw]
        refine WhileEnd.intro (by k_asm) (by k_asm) (by k_extra "my:my sub") (k' := (ks.length - (at_ + sizeAt ks at_ kind ks.length)).toNat) q3
          ⟨at_ + sizeAt ks at_ kind ks.length, _, (256 * ks.getD (at_ + 2).toNat 0 + ks.getD (at_ + 3).toNat 0) / 8 * 8, _, hs ++ [(kind, cut ks (at_ + 1) (at_ + sizeAt ks at_ kind ks.length))], rfl, val_int rfl rfl, val_int rfl rfl, val_int rfl rfl, rfl, rfl, q2, rfl,
            by rw [hlw2], ?_, fun h => ?_, fun h => ?_⟩ rfl
        · rw [hlw2, bitAnd_m1]
          exact odd_eq _ _
        · rw [decide_eq_false q4]
          exact step_on q1 h0 hat.2 (Int.le_refl _) hk hR0 hN (fun h' => last_no hb1.1 hb2.1 h h'.2)
        · exact step_last q1 h0 hat.2 (Int.le_refl _) hk hR0 ⟨h44, last_yes hb1.1 hb2.1 h⟩
      · rename sizeAt ks at_ kind _ ≠ 0 => hz2
        rename kind ≠ 44 => h44
        obtain ⟨q1, q2, q3, q4, q5, q6⟩ := turn_ar hpos hz hz2 hat
        have hR2 := step_on q1 h0 hat.2 (Int.le_refl _) hk hR0 hN (fun h => h44 h.1)
        have hlw3 := (hlw (cut ks (at_ + 1) (at_ + sizeAt ks at_ kind ks.length))).trans (if_neg h44)
        refine WhileEnd.intro (by k_asm) (by k_asm) (by k_extra "my:my sub") (k' := (ks.length - (at_ + sizeAt ks at_ kind ks.length)).toNat) q3
          ⟨at_ + sizeAt ks at_ kind ks.length, _, place, more, hs ++ [(kind, cut ks (at_ + 1) (at_ + sizeAt ks at_ kind ks.length))], rfl, val_int rfl rfl, val_int rfl rfl, val_int rfl rfl, rfl, rfl, q2, rfl,
            by rw [hlw3]; exact hpl, by rw [hlw3]; exact hmo, fun _ => by rw [hR2, decide_eq_false q4], fun h => absurd hp0 h⟩ rfl
    · rename place ≠ 0 => hp0
      rw [hfin (hR1 hp0)] at hret
      exact hret _ [_] _ _ (by k_asm) (by k_asm) (.tuple (.head _) (.cons (.int _ _) (.cons (.int _ _) (.cons (.int _ _) (.cons (.bool _) .nil)))))))) only [↓heldQ_eq]
theorem said_13 : True := by
  k_with "my:call ref" => (k_here; (fail_if_success plain_pass); (with_reducible show wpAny _ _ (call (Value.ref 147) _) _ _ _); k_dflt ( refine' Called.use ?k1 ?k2 ?k3 ?k4 ?k5 ?k6 (look6_c _ _ _ _ _ ?kp ?kq) trivial ?kd ?ku ?_; k_extra "my:my facts"; (case kp => first | assumption | kba_ints); (case kq => omega); intro v9 tl9 h9 tk9 F9 N9 r9; (try dsimp only); (try k_extra "my:my fold")))
  trivial

theorem part_10 : True := by
  w_top off
  trivial
/-! ## the faults of the text: made, raised, carried out of the frames -/
noncomputable abbrev excObj (C t : Addr) : Obj := { cls := .ref C, data := .fields #[.ref t, .none, .none, .none, .bool false, .none] }
noncomputable abbrev tupObj (vs : List Value) : Obj := { cls := .type "tuple", data := .seq vs.toArray }

section
variable {prog : Program} {w : World} {A : Around} {R : Result → Shared → Prop} {h : Heap} {g : Array GenState} {d : Drawn} {t : Nat} {os : OsState}
variable {nm q : Str} {C N : Addr} {bs bm : List Value} {hdct : Bool} {sn : List Str} {sub : List Value} {ab : Bool} {col : Option Bool} {dd : Option Addr} {k0 k1 k2 k3 k5 : Option Value}

theorem exc_check {M : Model} {E : Value → Shared → Prop} {rest : List Value} {Q : Unit → Shared → Prop} (hC : h.get? C = some (excClassObj nm q C N bs bm hdct sn sub ab col dd k0 k1 k2 k3 k5 "Exception.__new__"))
    (hB : bm.contains (.type "Exception") = true) (hq : Q () ⟨h, g, d, t, os⟩) : wpAny M A (checkBuiltinCall "Exception.__new__" ⟨.ref C :: rest, []⟩) Q E ⟨h, g, d, t, os⟩ := by
  have F := PySem.F.excBase_Exception
  have hc : (Value.ref C :: bm).contains (.type "Exception") = true := by rw [List.contains_cons, hB, Bool.or_true]
  have hs := F.noStar
  simp only [checkBuiltinCall, F.newKind, F.newSplit, F.newRow]
  repeat (first | refine wpAny_loadPart_at hC ?_ | (refine wpAny_isSubtype_exc hC ?_; rw [hc]) | refine wpAny_staticBase_exc hC ?_ | refine wpAny_madeBy_exc hC ?_ | simp only [bne_self_eq_false, Bool.false_eq_true, if_false] | wp_step)
  exact hq

theorem exc_new {rest : List Value} (hC : h.get? C = some (excClassObj nm q C N bs bm hdct sn sub ab col dd k0 k1 k2 k3 k5 "Exception.__new__"))
    (hB : bm.contains (.type "Exception") = true) (hA : bm.contains (.type "AttributeError") = false) (hN : bm.contains (.type "NameError") = false) (hrest : rest.length ≤ sizeLine)
    (hq : R (.ok (.ret (.ref (h.objs.size + 1)))) ⟨(h.push (tupObj rest)).push (excObj C h.objs.size), g, d, t, os⟩) :
    codeAny (model prog w) A (.builtin "Exception.__new__" ⟨.ref C :: rest, []⟩) R ⟨h, g, d, t, os⟩ := by
  have F := PySem.F.excBase_Exception
  have hends := F.ends
  have hcB : (Value.ref C :: bm).contains (.type "Exception") = true := by rw [List.contains_cons, hB, Bool.or_true]
  have hcA : (Value.ref C :: bm).contains (.type "AttributeError") = false := by rw [List.contains_cons, hA]; rfl
  have hcN : (Value.ref C :: bm).contains (.type "NameError") = false := by rw [List.contains_cons, hN]; rfl
  refine codeAny_builtinAt F.entry ?_
  unfold Builtin.«BaseException.__new__»
  refine PySem.wpAt_bind ?_
  show PySem.wpAt _ _ _ (stack >>= _) _ _ _
  refine PySem.wpAt_bind (PySem.wpAt_stack fun p below => PySem.wpAt_of_wpAny ?_)
  wp_walk
  refine PySem.wpAt_of_wpAny ?_
  rw [F.owner]
  repeat (first | with_reducible refine wpAny_madeHere_exc F.canon hC ?_ | with_reducible refine wpAny_loadPart_at hC ?_ | (with_reducible refine wpAny_isSubtype_exc hC ?_; first | rw [hcB] | rw [hcA] | rw [hcN]) | wp_step)
  show R _ _
  rw [Heap.size_push]
  exact hq

theorem exc_make {rest : List Value} {f : Addr} (hC : h.get? C = some (excClassObj nm q C N bs bm hdct sn sub ab col dd k0 k1 k2 k3 k5 "Exception.__new__"))
    (hB : bm.contains (.type "Exception") = true) (hA : bm.contains (.type "AttributeError") = false) (hN : bm.contains (.type "NameError") = false) (hrest : rest.length ≤ sizeLine)
    (hi : Looks (model prog w) h (typeLookup (.ref C) "__init__") (some (.ref f))) (hb : ∀ self, Looks (model prog w) h (bindSpecial (.ref f) self) (.ref f, [self]))
    (hq : codeAny (model prog w) (A.under (.builtin "type.__call__" ⟨.ref C :: rest, []⟩)) (.call (.ref f) ⟨.ref (h.objs.size + 1) :: rest, []⟩) (InitBack (h.objs.size + 1) R) ⟨(h.push (tupObj rest)).push (excObj C h.objs.size), g, d, t, os⟩) :
    codeAny (model prog w) A (.call (.ref C) ⟨rest, []⟩) R ⟨h, g, d, t, os⟩ := by
  have F := PySem.F.excBase_Exception
  have f1 := tc_lookup
  have f2 := tc_bind (.ref C)
  have hT : (⟨h, g, d, t, os⟩ : Shared).TypeIs (.ref C) "type" := ⟨_, hC, rfl⟩
  refine codeAny_of_tree ?_
  show wpAny _ _ (callAny (.ref C) _) _ _ _
  repeat (any_goals (first | assumption | with_reducible refine wpAny_loadPart_at hC ?_ | wp_step))
  refine ⟨rfl, ?_⟩
  refine codeAny_call_builtin_at (Code.quiet_builtin _ (by decide +kernel)) entry_typeCall (wpAny_check_type_call_sub hC ?_)
  repeat (first | with_reducible refine wpAny_loadPart_at hC ?_ | with_reducible refine wpAny_madeBy_exc hC ?_ | wp_step)
  refine codeAny_call_builtin_code (Code.quiet_builtin _ F.quiet) (exc_check hC hB ?_)
  refine exc_new hC hB hA hN hrest ?_
  show wpAny _ _ _ _ _ ⟨(h.push (tupObj rest)).push (excObj C h.objs.size), g, d, t, os⟩
  have k : ∀ b o, h.get? b = some o → ((h.push (tupObj rest)).push (excObj C h.objs.size)).get? b = some o := fun b o e => Heap.get?_push_of_some _ (Heap.get?_push_of_some _ e)
  have hx : ((h.push (tupObj rest)).push (excObj C h.objs.size)).get? (h.objs.size + 1) = some (excObj C h.objs.size) := by heap_get
  have hC₁ := k _ _ hC
  have hcC : (Value.ref C :: bm).contains (.ref C) = true := by simp
  have i1 := hi.keeps k
  have b1 := (hb (.ref (h.objs.size + 1))).keeps k
  unfold isInstance callSpecial? specialOf
  repeat (first | with_reducible refine Looks.at i1 ?_ | with_reducible refine Looks.at b1 ?_ | with_reducible refine wpAny_loadPart_at hx ?_ | (with_reducible refine wpAny_isSubtype_exc hC₁ ?_; rw [hcC]) | with_reducible refine wpAny_call ?_ | wp_step)
  refine codeAny_mono hq fun r s' z => ?_
  rcases r with e | (v | _ | _ | _) <;> first | exact z | exact z.elim | skip
  obtain ⟨rfl, z⟩ := z
  exact wpAny_pure (wpAny_pure z)
end

theorem part_11 : True := by
  w_top off
  trivial
/-! ## trees that leave each object's class and dict alone -/
/-- the classes and dicts of what stood are as they were -/
def DK (h h' : Heap) : Prop := ∀ b o, h.get? b = some o → ∃ o', h'.get? b = some o' ∧ o'.cls = o.cls ∧ o'.dict = o.dict
theorem DK.refl (h : Heap) : DK h h := fun _ o e => ⟨o, e, rfl, rfl⟩
theorem DK.trans {h₁ h₂ h₃ : Heap} (x : DK h₁ h₂) (y : DK h₂ h₃) : DK h₁ h₃ := fun b o e =>
  let ⟨_, e1, c1, d1⟩ := x b o e; let ⟨o2, e2, c2, d2⟩ := y b _ e1; ⟨o2, e2, c2.trans c1, d2.trans d1⟩
theorem DK.keeps {h h' : Heap} (k : ∀ b o, h.get? b = some o → h'.get? b = some o) : DK h h' := fun b o e => ⟨o, k b o e, rfl, rfl⟩
/-- a change that leaves class and dict alone -/
def Mild (f : Obj → Obj) : Prop := ∀ o, (f o).cls = o.cls ∧ (f o).dict = o.dict ∧ (f o).isFreed = o.isFreed
theorem DK.update {h : Heap} {a : Addr} {f : Obj → Obj} (hf : Mild f) : DK h (h.update a f) := fun b o e => by
  by_cases q : a = b
  · subst q
    exact ⟨_, Heap.get?_update_self f e ((hf o).2.2.trans (Heap.get?_some_iff.mp e).2), (hf o).1, (hf o).2.1⟩
  · exact ⟨o, (Heap.get?_update_other _ _ q).trans e, rfl, rfl⟩

def Calmly {α : Type} : Sem α → Prop
  | .pure _ | .raise _ | .unsupported _ | .finish _ | .register _ _ | .yield .. | .fork .. | .await .. => True
  | .rule _ k => Calmly (k ())
  | .at _ k => Calmly (k ())
  | .load _ _ k => ∀ o, Calmly (k o)
  | .update _ _ f k => Mild f ∧ Calmly (k ())
  | .loadIfAlive _ k => ∀ o, Calmly (k o)
  | .point _ k => Calmly (k ())
  | .alloc _ k => ∀ a, Calmly (k a)
  | .fresh k => ∀ t, Calmly (k t)
  | .ask k => ∀ x, Calmly (k x)
  | .choose _ _ k => ∀ x, Calmly (k x)
  | .os _ _ k => ∀ x, Calmly (k x)
  | .call .. => False
  | .handled _ k => ∀ x, Calmly (k x)
  | .genState _ k => ∀ x, Calmly (k x)
  | .newGen _ k => ∀ x, Calmly (k x)
  | .resume .. => False
  | .stack k => ∀ x, Calmly (k x)
  | .thread k => ∀ x, Calmly (k x)

theorem Calmly.wp {α : Type} {M : Model} {Γ : PySem.Ctx} : ∀ {t : Sem α}, Calmly t → ∀ {Q : α → Pos → Shared → Prop} {E : Value → Pos → Shared → Prop} {p : Pos} {s : Shared} (h₀ : Heap), DK h₀ s.heap → Sem.wp M Γ t Q E p s →
    Sem.wp M Γ t (fun a p s' => Q a p s' ∧ DK h₀ s'.heap) (fun e p s' => E e p s' ∧ DK h₀ s'.heap) p s := by
  intro t
  induction t with
  | pure a => intro _ Q E p s h₀ hd h; rw [Sem.wp] at h ⊢; exact ⟨h, hd⟩
  | raise e => intro _ Q E p s h₀ hd h; rw [Sem.wp] at h ⊢; exact ⟨h, hd⟩
  | unsupported w => intro _ Q E p s h₀ hd h; rw [Sem.wp] at h; exact h.elim
  | finish e => intro _ Q E p s h₀ hd h; rw [Sem.wp] at h; exact h.elim
  | register a k ih => intro _ Q E p s h₀ hd h; rw [Sem.wp] at h; exact h.elim
  | yield v g l k ih => intro _ Q E p s h₀ hd h; rw [Sem.wp] at h; exact h.elim
  | fork c k ih => intro _ Q E p s h₀ hd h; rw [Sem.wp] at h; exact h.elim
  | await a t d l k ih => intro _ Q E p s h₀ hd h; rw [Sem.wp] at h; exact h.elim
  | rule g k ih => intro c Q E p s h₀ hd h; rw [Sem.wp] at h ⊢; exact ih () c h₀ hd h
  | «at» q k ih => intro c Q E p s h₀ hd h; rw [Sem.wp] at h ⊢; exact ih () c h₀ hd h
  | load a q k ih => intro c Q E p s h₀ hd h; rw [Sem.wp] at h ⊢; obtain ⟨o, ho, h⟩ := h; exact ⟨o, ho, ih o (c o) h₀ hd h⟩
  | update a q f k ih => intro c Q E p s h₀ hd h; rw [Sem.wp] at h ⊢; exact ⟨h.1, ih () c.2 h₀ (hd.trans (DK.update c.1)) h.2⟩
  | alloc o k ih => intro c Q E p s h₀ hd h; rw [Sem.wp] at h ⊢; exact ih _ (c _) h₀ (hd.trans (DK.keeps fun b o e => Heap.get?_push_of_some _ e)) h
  | loadIfAlive a k ih => intro c Q E p s h₀ hd h; rw [Sem.wp] at h ⊢; exact ih _ (c _) h₀ hd h
  | point l k ih => intro c Q E p s h₀ hd h; rw [Sem.wp] at h ⊢; exact ih () c h₀ hd h
  | fresh k ih => intro c Q E p s h₀ hd h; rw [Sem.wp] at h ⊢; exact ih _ (c _) h₀ hd h
  | ask k ih => intro c Q E p s h₀ hd h; rw [Sem.wp] at h ⊢; exact ih _ (c _) h₀ hd h
  | choose a n k ih => intro c Q E p s h₀ hd h; rw [Sem.wp] at h ⊢; exact ⟨h.1, ih _ (c _) h₀ hd h.2⟩
  | os q l k ih => intro c Q E p s h₀ hd h; rw [Sem.wp] at h ⊢; exact ih _ (c _) h₀ hd h
  | call c h g l k ih => intro c; exact c.elim
  | handled o k ih => intro c Q E p s h₀ hd h; rw [Sem.wp] at h ⊢; exact ih _ (c _) h₀ hd h
  | newGen c k ih => intro c Q E p s h₀ hd h; rw [Sem.wp] at h ⊢; exact ih _ (c _) h₀ hd h
  | genState g k ih => intro c Q E p s h₀ hd h; rw [Sem.wp] at h ⊢; obtain ⟨st, ho, h⟩ := h; exact ⟨st, ho, ih _ (c _) h₀ hd h⟩
  | resume g r l k ih => intro c; exact c.elim
  | stack k ih => intro c Q E p s h₀ hd h; rw [Sem.wp] at h ⊢; exact ih _ (c _) h₀ hd h
  | thread k ih => intro c Q E p s h₀ hd h; rw [Sem.wp] at h ⊢; exact ih _ (c _) h₀ hd h

theorem Calmly.any {α : Type} {M : Model} {A : Around} {E : Value → Shared → Prop} {s : Shared} {t : Sem α} {Q : α → Shared → Prop} (c : Calmly t) (h : wpAny M A t (fun a s' => DK s.heap s'.heap → Q a s') E s) : wpAny M A t Q E s :=
  fun Γ p hΓ => Sem.wp_mono M Γ t (fun a p' s' x => x.1 x.2) (fun e p' s' x => x.1) p s (Calmly.wp c s.heap (DK.refl _) (h Γ p hΓ))

theorem Calmly.bind {α β : Type} {f : α → Sem β} : ∀ {m : Sem α}, Calmly m → (∀ a, Calmly (f a)) → Calmly (m >>= f) := by
  intro m
  show Calmly m → (∀ a, Calmly (f a)) → Calmly (Sem.bind m f)
  induction m with
  | pure a => exact fun _ h => h a
  | rule g k ih => exact fun c h => ih () c h
  | «at» q k ih => exact fun c h => ih () c h
  | load a q k ih => exact fun c h o => ih o (c o) h
  | update a q f k ih => exact fun c h => ⟨c.1, ih () c.2 h⟩
  | alloc o k ih => exact fun c h a => ih a (c a) h
  | loadIfAlive a k ih => exact fun c h o => ih o (c o) h
  | point l k ih => exact fun c h => ih () c h
  | fresh k ih => exact fun c h a => ih a (c a) h
  | ask k ih => exact fun c h a => ih a (c a) h
  | choose a n k ih => exact fun c h a => ih a (c a) h
  | os q l k ih => exact fun c h a => ih a (c a) h
  | call => exact fun c _ => c.elim
  | handled o k ih => exact fun c h a => ih a (c a) h
  | newGen c k ih => exact fun c h a => ih a (c a) h
  | genState g k ih => exact fun c h a => ih a (c a) h
  | resume => exact fun c _ => c.elim
  | stack k ih => exact fun c h a => ih a (c a) h
  | thread k ih => exact fun c h a => ih a (c a) h
  | _ => exact fun _ _ => trivial
theorem mild_fields (f : Array Value → Array Value) : Mild (Obj.mapFields f) := fun o => by
  obtain ⟨c, d, dt, s⟩ := o
  cases dt <;> exact ⟨rfl, rfl, rfl⟩
theorem mild_slots (f : Obj → Array (Option Value)) : Mild (fun o => { o with slots := f o }) := fun o => by
  obtain ⟨c, d, dt, s⟩ := o
  cases dt <;> exact ⟨rfl, rfl, rfl⟩
theorem calm_field (v : Value) (i : Nat) : Calmly (PySem.field v i) := by
  unfold PySem.field fieldsOf
  refine Calmly.bind ?_ fun vs => ?_
  · split
    · exact Calmly.bind (m := load _) (fun _ => trivial) fun o => by split <;> trivial
    · trivial
  · split <;> trivial
theorem calm_setField (v : Value) (i : Nat) (x : Value) : Calmly (setField v i x) := by
  unfold setField updateField
  split
  · refine Calmly.bind (m := load _) (fun _ => trivial) fun o => ?_
    split
    · split
      · exact ⟨mild_fields _, trivial⟩
      · trivial
    · trivial
  · trivial
theorem calm_setFlight (v : Value) (f : Option Addr) : Calmly (setFlight v f) := by
  unfold setFlight
  refine Calmly.bind (calm_field _ _) fun tb => ?_
  split
  · exact calm_setField _ _ _
  · trivial
theorem calm_ready : ∀ l : List Env, Calmly (readyFrames l)
  | [] => trivial
  | env :: outer => by
    unfold readyFrames
    split
    · rename_i f _
      refine Calmly.bind (m := load _) (fun _ => trivial) fun o => ?_
      split
      · trivial
      · refine Calmly.bind ?_ fun i => Calmly.bind ?_ fun b => Calmly.bind (m := update _ _) ⟨mild_slots _, trivial⟩ fun _ => calm_ready outer
        · unfold behindIsImport
          split
          · trivial
          · split
            · trivial
            · exact Calmly.bind (calm_field _ _) fun _ => trivial
        · unfold keptBack
          split
          · split
            · trivial
            · exact Calmly.bind (m := underTheClaimsCaller) (Calmly.bind (m := stack) (fun _ => trivial) fun _ => trivial) fun _ => by first | trivial | (split <;> trivial)
          · trivial
    · trivial
theorem calm_frameOf (env : Env) : Calmly (PySem.frameOf env) := by
  unfold PySem.frameOf frameEnvs
  refine Calmly.bind (Calmly.bind (m := stack) (fun _ => trivial) fun _ => trivial) fun l => Calmly.bind ?_ fun r => by split <;> trivial
  unfold frameObject
  split
  · trivial
  · exact Calmly.bind (calm_ready _) fun _ => trivial
theorem calm_place (f : Addr) (b : Bool) : Calmly (entryPlaceOf f b) := by
  unfold entryPlaceOf
  exact Calmly.bind (m := stack) (fun _ => trivial) fun _ => by split <;> trivial
theorem calm_newFields (ty : String) (vs : List Value) : Calmly (newFields ty vs) := by
  unfold newFields newObj newObjAsIs
  dsimp only
  have fin : Calmly (do let a ← alloc { cls := .type ty, dict := none, data := .fields vs.toArray }; pure (Value.ref a)) := Calmly.bind (m := alloc _) (fun _ => trivial) fun _ => trivial
  split
  · exact Calmly.bind (m := unsupported _) trivial fun _ => fin
  · exact fin
theorem calm_entry (a b c d e : Value) (l : List Value) : Calmly (EntryCells.newEntry a b c d e l) := calm_newFields _ _
theorem calm_note (v : Value) (env : Env) : Calmly (noteFrame v env) := by
  unfold noteFrame
  split
  · refine Calmly.bind (calm_field _ _) fun head => ?_
    have tail : Calmly (do setField v 1 (← EntryCells.newEntry head (← PySem.frameOf env) .none (rawInt ‹Addr›) .none (← entryPlaceOf ‹Addr› (head != .none)))) :=
      Calmly.bind (calm_frameOf _) fun _ => Calmly.bind (calm_place _ _) fun _ => Calmly.bind (calm_entry _ _ _ _ _ _) fun _ => calm_setField _ _ _
    split
    · refine Calmly.bind (calm_field _ _) fun _ => ?_
      split
      · trivial
      · exact Calmly.bind (calm_setField _ _ _) fun _ => tail
    · exact tail
  · trivial
theorem calm_leaving (v : Value) (env : Env) : Calmly (leaving env v) := by
  unfold leaving
  exact Calmly.bind (calm_note _ _) fun _ => calm_setFlight _ _

theorem part_12 : True := by
  w_top off
  trivial
/-- the fault as it lies when it is made -/
noncomputable abbrev faultObj (C t dx : Addr) : Obj := { cls := .ref C, dict := some dx, data := .fields #[.ref t, .none, .none, .none, .bool false, .none] }
def IsFault (C : Addr) (why : Str) (news : List (Addr × Obj)) : Value → List (Addr × Obj) → Prop := fun v tl =>
  ∃ e t dx es n tw tw', v = .ref e ∧ tl = [(e, faultObj C t dx), (t, tupObj [.str why tw]), (dx, dictOf es n)] ∧ getL (Str.ofString "why") es = some (some (.str why tw')) ∧ (∀ q ∈ news, q.1 < e) ∧ e < t ∧ t < dx

section
variable {prog : Program} {w : World} {A : Around} {E : Value → Shared → Prop} {s : Shared} {h₀ : Heap} {L : Addr} {m : Str → Option Value} {news : List (Addr × Obj)} {K : Frag}
theorem exc_stub : opaqueClassAbove (.type "Exception") = pure none := by unfold opaqueClassAbove; dsimp only; rw [show Manifest.isStub "Exception" = false by decide +kernel]; rfl
theorem getm_exc {pl : Sem Bool} {Q : Value × List Value → Shared → Prop} (X : K.In s.heap) (h : Q (.builtin "Exception.__init__", []) { s with toks := s.toks + 1 }) :
    wpAny (model prog w) A (getMethod (.type "Exception") (Str.ofString "__init__") pl) Q E s := by
  have ht : typeOf (.type "Exception") = pure (.type "type") := by first | rfl | kernel_rfl
  have L0 : Looks (model prog w) s.heap (typeOf (.type "Exception")) (.type "type") := Looks.of_pure ht
  have hg : findIn K (.type "type") "__getattribute__" = some (some (.builtin "type.__getattribute__")) := type_tga
  have e : findCls K (.type "Exception") (.type "type") (Str.ofString "__init__") = some (.val (.builtin "Exception.__init__")) := by rfl
  unfold getMethod specialOf
  refine wpAny_bind (wpAny_bind (L0.here ((looks_findIn X hg).here ?_)))
  dsimp only
  rw [if_pos canon_tga]
  refine wpAny_bind (wpAny_mono (Q := fun v => Q (v, [])) (E := E) ?_ (fun _ _ z => wpAny_pure z) fun _ _ z => z)
  have LO : Looks (model prog w) s.heap (opaqueClassAbove (.type "Exception")) none := Looks.of_pure exc_stub
  refine cls_open X LO L0 hg (looks_hook X (r := none) (by rfl)) (by show subIn K _ _ = _; rfl) e ?_
  exact wpAny_pure (handed_on (by decide +kernel) h)

theorem exc_check_init {M : Model} {nm q : Str} {C N e : Addr} {bs bm : List Value} {hdct : Bool} {sn : List Str} {sub : List Value} {ab : Bool} {col : Option Bool} {dd : Option Addr} {k0 k1 k2 k3 k5 : Option Value} {nw : String} {oe : Obj} {rest : List Value}
    {h : Heap} {g : Array GenState} {d : Drawn} {t : Nat} {os : OsState} {Q : Unit → Shared → Prop} (hC : h.get? C = some (excClassObj nm q C N bs bm hdct sn sub ab col dd k0 k1 k2 k3 k5 nw)) (hB : bm.contains (.type "Exception") = true)
    (he : h.get? e = some oe) (hcls : oe.cls = .ref C) (hq : Q () ⟨h, g, d, t, os⟩) : wpAny M A (checkBuiltinCall "Exception.__init__" ⟨.ref e :: rest, []⟩) Q E ⟨h, g, d, t, os⟩ := by
  have F := PySem.F.excBase_Exception
  have hc : (Value.ref C :: bm).contains (.type "Exception") = true := by rw [List.contains_cons, hB, Bool.or_true]
  have hshort := F.noStar
  simp only [checkBuiltinCall, F.initKind, F.initSplit, F.initRow]
  repeat (first | (with_reducible refine wpAny_loadPart_at he ?_; rw [hcls]) | with_reducible refine wpAny_loadPart_at hC ?_ | (with_reducible refine wpAny_isSubtype_exc hC ?_; rw [hc]) | wp_step)
  refine wpAny_onRaise ?_
  rw [show ∀ (a b : String) (n : Nat), Bind.check ⟨.positional, "*", "Exception", .self, [⟨"args", .varPos, false⟩]⟩ a b n (List.map (fun x => x.fst) ({ pos := Value.ref e :: rest } : Args).kw) = pure () from
    fun a b n => check_star_args _ _ _ _ _ _]
  exact wpAny_pure hq

theorem exc_init {C e t : Addr} {rest : List Value} {Q : Value → Shared → Prop} (F : Fr h₀ L s.heap m) (N : News h₀ L s.heap ((e, excObj C t) :: news)) (hne : ∀ q ∈ news, q.1 ≠ e) 
    {nm q : Str} {Nm : Addr} {bs bm : List Value} {hdct : Bool} {sn : List Str} {sub : List Value} {ab : Bool} {col : Option Bool} {dd : Option Addr} {k0 k1 k2 k3 k5 : Option Value} {nw : String} (hC : s.heap.get? C = some (excClassObj nm q C Nm bs bm hdct sn sub ab col dd k0 k1 k2 k3 k5 nw)) (hB : bm.contains (.type "Exception") = true)
    (hz : rest.length ≤ sizeLine)
    (h : ∀ t' h', Fr h₀ L h' m → News h₀ L h' ((e, excObj C t') :: (t', tupObj rest) :: news) → (∀ q ∈ news, q.1 < t') → e < t' → Q .none { s with heap := h' }) :
    wpAny (model prog w) A (call (.builtin "Exception.__init__") (.ref e :: rest)) Q E s := by
  have FE := PySem.F.excBase_Exception
  obtain ⟨hp, g, d, tk, os⟩ := s
  have he : hp.get? e = some (excObj C t) := (N _ (.head _)).1
  refine wpAny_call (codeAny_call_builtin FE.init.plain FE.initEntry (exc_check_init hC hB he rfl ?_))
  unfold Builtin.«BaseException.__init__»
  have h1 := Heap.get?_push_of_some (tupObj rest) he
  have N1 := News.push F N (tupObj rest)
  have F1 := F.push (tupObj rest)
  show wpAny _ _ (newTuple rest >>= fun v => _) _ _ _
  refine wpAny_bind (wpAny_newObj_type ?_ (by show rest.toArray.size ≤ sizeLine; rw [List.size_toArray]; exact hz))
  refine wpAny_bind ?_
  unfold Builtin.BaseException.bexcPut
  refine wpAny_bind (wpAny_field h1 rfl (x := .ref t) rfl ?_)
  refine wpAny_bind (wpAny_setField h1 rfl (by simp) ?_)
  refine wpAny_letGo (wpAny_pure ?_)
  have hlt := Heap.lt_size he
  refine h hp.objs.size _ (F1.change (Heap.SameBut.update ..) (N _ (.head _)).2.1 (N _ (.head _)).2.2) ?_ (fun q hq => Heap.lt_size (N q (.tail _ hq)).1) hlt
  have hs := Heap.SameBut.update (hp.push (tupObj rest)) e (Obj.mapFields (·.setIfInBounds 0 (Value.ref hp.objs.size)))
  intro p hpm
  rcases List.mem_cons.mp hpm with rfl | hpm
  · exact ⟨Heap.get?_update_self _ h1 rfl, (N _ (.head _)).2⟩
  · have hq : p.1 ≠ e := by
      rcases List.mem_cons.mp hpm with rfl | hq
      · exact Nat.ne_of_gt hlt
      · exact hne p hq
    have z := N1 p (by
      rcases List.mem_cons.mp hpm with rfl | hq
      · exact .head _
      · exact .tail _ (.tail _ hq))
    exact ⟨(hs.2 _ hq).trans z.1, z.2⟩
end

section
open PySem.Builtin PySem.Builtin.ObjectAttr
variable {prog : Program} {w : World} {A : Around} {s : Shared} {h₀ : Heap} {L : Addr} {m : Str → Option Value} {news : List (Addr × Obj)} {K : Frag} {C D e : Addr} {R : Result → Shared → Prop}
theorem exc_refuse (self : Value) (C D : Addr) : refuseLoop self "__setattr__" [.ref C, .ref D, .type "Exception", .type "BaseException", .type "object"] = pure () := by
  rw [refuseLoop_ref, refuseLoop_ref]
  kernel_rfl

def finR (prog : Program) (w : World) (A : Around) (R : Result → Shared → Prop) : Fin → Shared → Prop := fun fin s' => match fin with | .done f => R (.ok f) s' | .again c' => c'.quiet = true ∧ codeAny (model prog w) A c' R s'

theorem exc_open {ox : Obj} {od : Option Obj} {cd : ClassData} {name : Str} {tk : Tok} {v : Value} (X : K.In s.heap) (I : InstAt s.heap e ox C od) (hc : clsIn K C = some cd) (hmro : cd.mro = [.ref C, .ref D, .type "Exception", .type "BaseException", .type "object"])
    (ht : takerIn K C name = some none)
    (h : ∀ b, wpAny (model prog w) A.in1 (storeInOwnDict (.ref e) (.ref C) (.str name tk) name v b) (finR prog w A R) (fun e s' => R (.error e) s') s) :
    codeAny (model prog w) A (.call (.builtin "object.__setattr__") ⟨[.ref e, .str name tk, v], []⟩) R s := by
  have SF := PySem.F.store_object
  have hm : Looks (model prog w) s.heap (mroOf (.ref C)) cd.mro := (looks_clsIn X hc).andThen .now
  have sub : Looks (model prog w) s.heap (isInstance (.ref e) (.type "object")) true := I.type.andThen (looks_mroIn X (by unfold mroIn; rw [hc, Option.bind_some, if_neg (by rw [hmro]; exact Bool.false_ne_true), hmro]; rfl))
  refine codeAny_call_builtin SF.slot.plain SF.entry (@check_slot (model prog w) _ _ s "object.__setattr__" "object" "__setattr__" (.ref e) [.str name tk, v] [] _ SF.kind SF.split sub (SF.args (.ref e) (.str name tk) v) ?_)
  obtain ⟨attr, ha, hr⟩ := Option.bind_eq_some_iff.mp ht
  have L3 : Looks (model prog w) s.heap (storeTaker? attr) none := by
    cases attr with
    | none => exact .now
    | some a =>
      obtain ⟨b, hb, hq⟩ := Option.map_eq_some_iff.mp hr
      refine (looks_takesIn X hb).andThen ?_
      cases b
      · exact .now
      · cases hq
  rw [osa_eq, refuse_eq]
  refine wpAny_bind (wpAny_bind (I.type.here (wpAny_bind (hm.here ?_))))
  rw [hmro, exc_refuse]
  exact wpAny_pure (wpAny_bind (I.type.here (wpAny_bind ((looks_findIn X ha).here (wpAny_bind (L3.here (h _)))))))

theorem store_in {dx : Addr} {od od' : Obj} {name : Str} {tk : Tok} {v : Value} {pre post : List (Addr × Obj)} {es : List DictEntry} {n : Nat} (F : Fr h₀ L s.heap m) (N : News h₀ L s.heap (pre ++ (dx, od) :: post))
    (hl : (lookIn name od).isSome = true) (h1 : ∀ p ∈ pre, p.1 ≠ dx) (h2 : ∀ p ∈ post, p.1 ≠ dx)
    (e : Obj.putName name (PyData.keyHash w.params name) (.str name s.toks) v od = od') (e' : od'.data = .dict es.toArray n) (hz : es.length ≤ 1000)
    (h : ∀ h', Fr h₀ L h' m → News h₀ L h' (pre ++ (dx, od') :: post) → R (.ok (.ret .none)) { s with heap := h', toks := s.toks + 1 }) :
    wpAny (model prog w) A.in1 (storeInDict dx (.str name tk) name v) (finR prog w A R) (fun e s' => R (.error e) s') s := by
  obtain ⟨U1, U2⟩ := news_upd (f := Obj.putName name (PyData.keyHash w.params name) (.str name s.toks) v) F N h1 h2 e (by obtain ⟨_, _, dd, _⟩ := od'; cases e'; rfl)
  have D := (N (dx, od) (by simp)).1
  have D' := (U2 (dx, od') (by simp)).1
  refine wpAny_bind (wpAny_pure (wpAny_bind ?_))
  unfold nsSet
  refine wpAny_bind (wpAny_bind (wpAny_askSetting (wpAny_pure (wpAny_bind (wpAny_mkText (wpAny_bind (wpAny_loadPart D ?_)))))))
  unfold lookIn at hl
  split at hl
  · rename_i es₀ n₀ q
    rw [q]
    dsimp only
    have c : (!es₀.any (·.key.isStr name) && es₀.any (·.refKey)) = false := by
      rw [← Array.any_toList, ← Array.any_toList]
      split at hl
      · rename_i en he
        rw [List.any_eq_true.mpr ⟨en, List.mem_of_find?_eq_some he, List.find?_some he⟩]; rfl
      · split at hl
        · cases hl
        · rename_i z; rw [Bool.not_eq_true] at z; rw [z, Bool.and_false]
    rw [aRefKeyMayBeTheName_at, c]
    refine wpAny_updatePart D ?_
    refine wpAny_bind (wpAny_lookBehind D' (by rw [e']; exact pastItsLine_dict (by rw [List.size_toArray, sizeLine_eq]; omega)) ?_)
    exact wpAny_pure (h _ U1 U2)
  · cases hl

/-- the first attribute of a fresh fault: its dict is made -/
theorem exc_set1 {t : Addr} {cd : ClassData} {name : Str} {v : Value} {Q : Unit → Shared → Prop} {E : Value → Shared → Prop} (F : Fr h₀ L s.heap m) (N : News h₀ L s.heap ((e, excObj C t) :: news)) (hne : ∀ q ∈ news, q.1 ≠ e) (X : K.In s.heap)
    (hc : clsIn K C = some cd) (hmro : cd.mro = [.ref C, .ref D, .type "Exception", .type "BaseException", .type "object"]) (hdt : cd.hasDict = true)
    (hs : findIn K (.ref C) "__setattr__" = some (some (.builtin "object.__setattr__"))) (ht : takerIn K C name = some none)
    (h : ∀ h' dx hsh k, Fr h₀ L h' m → News h₀ L h' ((e, faultObj C t dx) :: (dx, dictOf [⟨hsh, .str name k, v⟩] 1) :: news) → (∀ q ∈ (e, excObj C t) :: news, q.1 < dx) → Q () { s with heap := h', toks := s.toks + 2 }) :
    wpAny (model prog w) A (setAttr (.ref e) name v) Q E s := by
  have he := (N _ (.head _)).1
  have I : InstAt s.heap e (excObj C t) C none := ⟨he, rfl, rfl, trivial⟩
  refine set_plain X I hs ?_
  refine exc_open (s := { s with toks := s.toks + 1 }) X I hc hmro ht fun b => ?_
  have hlt : ∀ q ∈ (e, excObj C t) :: news, q.1 < s.heap.objs.size := fun q hq => Heap.lt_size (N q hq).1
  have hLx : L ≠ s.heap.objs.size := Nat.ne_of_lt F.ns.lt
  have N1 := N.push F (dictOf [] 0)
  have F1 := F.push (dictOf [] 0)
  have e1 := Heap.get?_push_of_some (dictOf [] 0) he
  have N2 : News h₀ L (s.heap.push (dictOf [] 0)) ([] ++ (e, excObj C t) :: (s.heap.objs.size, dictOf [] 0) :: news) := fun p hp => N1 p (by
    rcases List.mem_cons.mp hp with rfl | hp
    · exact .tail _ (.head _)
    · rcases List.mem_cons.mp hp with rfl | hp
      · exact .head _
      · exact .tail _ (.tail _ hp))
  obtain ⟨F3, N3⟩ := news_upd (f := fun o => { o with dict := some s.heap.objs.size }) (o' := faultObj C t s.heap.objs.size) F1 N2 (fun p hp => nomatch hp) (fun p hp => by
    rcases List.mem_cons.mp hp with rfl | hp
    · exact Nat.ne_of_gt (hlt _ (.head _))
    · exact hne p hp) rfl rfl
  refine wpAny_bind (wpAny_pure (wpAny_bind ?_))
  show wpAny _ _ (instanceDict e true) _ _ _
  unfold instanceDict
  refine wpAny_bind (wpAny_loadPart he ?_)
  dsimp only
  refine wpAny_bind (looks_clsIn (M := model prog w) X hc _ _ _ _ (fun _ _ x => x) ?_)
  rw [hdt]
  refine wpAny_bind (wpAny_alloc ?_)
  refine wpAny_bind (wpAny_update e1 ?_)
  refine wpAny_pure ?_
  refine store_in (pre := [(e, faultObj C t s.heap.objs.size)]) (post := news) (od := dictOf [] 0) F3 N3 rfl (fun p hp => ?_) (fun p hp => Nat.ne_of_lt (hlt p (.tail _ hp))) (putName_dict ..) rfl (by show (1 : Nat) ≤ _; omega) fun h' F' N' => ?_
  · rw [List.mem_singleton.mp hp]; exact Nat.ne_of_lt (hlt (e, excObj C t) (.head _))
  · exact h h' _ _ _ F' N' hlt

theorem exc_set2 {t dx : Addr} {cd : ClassData} {name : Str} {v : Value} {es es' : List DictEntry} {n n' : Nat} {pre post : List (Addr × Obj)} {Q : Unit → Shared → Prop} {E : Value → Shared → Prop} (F : Fr h₀ L s.heap m) (N : News h₀ L s.heap (pre ++ (dx, dictOf es n) :: post)) (h1 : ∀ p ∈ pre, p.1 ≠ dx) (h2 : ∀ p ∈ post, p.1 ≠ dx) (he : (e, faultObj C t dx) ∈ pre ++ (dx, dictOf es n) :: post) (X : K.In s.heap)
    (hc : clsIn K C = some cd) (hmro : cd.mro = [.ref C, .ref D, .type "Exception", .type "BaseException", .type "object"]) (hdt : cd.hasDict = true)
    (hs : findIn K (.ref C) "__setattr__" = some (some (.builtin "object.__setattr__"))) (ht : takerIn K C name = some none) (hl : (getL name es).isSome = true)
    (ee : putL name (PyData.keyHash w.params name) (.str name (s.toks + 1)) v es = es') (en : putN name es n = n') (hz : es'.length ≤ 1000)
    (h : ∀ h', Fr h₀ L h' m → News h₀ L h' (pre ++ (dx, dictOf es' n') :: post) → Q () { s with heap := h', toks := s.toks + 2 }) :
    wpAny (model prog w) A (setAttr (.ref e) name v) Q E s := by
  have hx := (N _ he).1
  have I : InstAt s.heap e (faultObj C t dx) C (some (dictOf es n)) := ⟨hx, rfl, rfl, (N (dx, dictOf es n) (by simp)).1⟩
  refine set_plain X I hs ?_
  refine exc_open (s := { s with toks := s.toks + 1 }) X I hc hmro ht fun b => ?_
  refine wpAny_bind (wpAny_pure (wpAny_bind ?_))
  show wpAny _ _ (instanceDict e true) _ _ _
  unfold instanceDict
  refine wpAny_bind (wpAny_loadPart hx ?_)
  dsimp only
  refine wpAny_bind (looks_clsIn (M := model prog w) X hc _ _ _ _ (fun _ _ x => x) ?_)
  rw [hdt]
  refine wpAny_pure ?_
  exact store_in F N hl h1 h2 (by rw [putName_dict, ee, en]) rfl hz h
end
theorem said_14 : True := by
  k_with "my:getMethod type:Exception" => (k_here; refine getm_exc (by k_in) ?_)
  trivial
theorem fault_swap {h₀ h : Heap} {L : Addr} {a b c d : Addr × Obj} {news : List (Addr × Obj)} (N : News h₀ L h (a :: b :: c :: d :: news)) : News h₀ L h ([a, c, b] ++ news) := fun p hp => N p (by
  rcases List.mem_cons.mp hp with rfl | hp
  · exact .head _
  · rcases List.mem_cons.mp hp with rfl | hp
    · exact .tail _ (.tail _ (.head _))
    · rcases List.mem_cons.mp hp with rfl | hp
      · exact .tail _ (.head _)
      · exact .tail _ (.tail _ (.tail _ (.tail _ hp))))
theorem fault_44 (w : World) (news : List (Addr × Obj)) (why : Str) (tw : Tok) :
    Called w 44 4 60 [.str why tw] news (fun _ => True) (IsFault 44 why news) := by
  refine of_heldQ ?_
  simp (disch := (refine anchorQ ?_; k_dflt (
  unfold Called
  k_fill
  intro mean mg mb dp un gd cn cs a ccd cl outer A₀ base h₀ L m s Q E B F X N T hk hb hdd hu hret
  obtain ⟨h, g, d, tk, os⟩ := s
  have Xs : (hd.heap_1 w.params).In h := X.keeps F.keep
  have hC := Xs 44 _ rfl
  refine wpAny_call (exc_make (rest := [.str why tw]) (f := 28) hC (by decide) (by decide) (by decide) (by rw [PySem.sizeLine_eq]; show 1 ≤ _; omega) (looks_findIn Xs rfl) (fun self => bind_fn Xs self rfl) ?_)
  have N' := (N.push F (tupObj [.str why tw])).push (F.push _) (excObj 44 h.objs.size)
  have F' := (F.push (tupObj [.str why tw])).push (excObj 44 h.objs.size)
  rw [Heap.size_push] at N'
  have hlt : ∀ p ∈ news, p.1 < h.objs.size := fun p hp => Heap.lt_size (N p hp).1
  k_dflt cell_enter
  k_steps
  rename Fr _ _ _ _ => F2
  rename News _ _ _ _ => N2
  rename Fr h₀ L _ m => FG
  have Xh := (X.keeps FG.keep).keeps F2.keep
  have hC := Xh 44 _ rfl
  refine exc_init F2 N2 (fun q hq => ?_) hC (by decide) (by rw [PySem.sizeLine_eq]; show 1 ≤ _; omega) ?_
  · rcases List.mem_cons.mp hq with rfl | hq
    · exact Nat.ne_of_lt (Nat.lt_succ_self _)
    · exact Nat.ne_of_lt (Nat.lt_succ_of_lt (hlt q hq))
  intro t' h9 F9 N9 l1 l2
  k_steps
  refine exc_set1 (D := 31) F9 N9 (fun q hq => ?_) ((X.keeps FG.keep).keeps F9.keep) rfl rfl rfl (by rfl) (by rfl) fun h3 dx hsh k F3 N3 l3 => ?_
  · rcases List.mem_cons.mp hq with rfl | hq
    · exact Nat.ne_of_gt l2
    · rcases List.mem_cons.mp hq with rfl | hq
      · exact Nat.ne_of_lt (Nat.lt_succ_self _)
      · exact Nat.ne_of_lt (Nat.lt_succ_of_lt (hlt q hq))
  (try dsimp only)
  k_steps
  (try dsimp only)
  refine exc_set2 (D := 31) (pre := [(h.objs.size + 1, faultObj 44 t' dx)]) (post := (t', tupObj [.str why tw]) :: (h.objs.size, tupObj [.str why tw]) :: news) F3 N3 (fun q hq => ?_) (fun q hq => Nat.ne_of_lt (l3 q (.tail _ hq))) (.head _) ((X.keeps FG.keep).keeps F3.keep) rfl rfl rfl (by rfl) (by rfl) (by rfl) rfl rfl (by show (2 : Nat) ≤ _; omega) fun h4 F4 N4 => ?_
  · rw [List.mem_singleton.mp hq]; exact Nat.ne_of_lt (l3 (h.objs.size + 1, excObj 44 t') (.head _))
  (try dsimp only)
  k_steps
  rename Fr h₀ L _ m => kF
  rename News h₀ L _ _ => kN
  refine hret _ _ h4 _ kF (fault_swap kN) ⟨h.objs.size + 1, t', dx, _, _, tw, tw, rfl, rfl, rfl, fun q hq => Nat.lt_succ_of_lt (hlt q hq), l2, l3 _ (.tail _ (.head _))⟩))) only [↓heldQ_eq]

theorem fault_56 (w : World) (news : List (Addr × Obj)) (why : Str) (tw : Tok) :
    Called w 56 4 60 [.str why tw] news (fun _ => True) (IsFault 56 why news) := by
  refine of_heldQ ?_
  simp (disch := (refine anchorQ ?_; k_dflt (
  unfold Called
  k_fill
  intro mean mg mb dp un gd cn cs a ccd cl outer A₀ base h₀ L m s Q E B F X N T hk hb hdd hu hret
  obtain ⟨h, g, d, tk, os⟩ := s
  have Xs : (hd.heap_1 w.params).In h := X.keeps F.keep
  have hC := Xs 56 _ rfl
  refine wpAny_call (exc_make (rest := [.str why tw]) (f := 28) hC (by decide) (by decide) (by decide) (by rw [PySem.sizeLine_eq]; show 1 ≤ _; omega) (looks_findIn Xs rfl) (fun self => bind_fn Xs self rfl) ?_)
  have N' := (N.push F (tupObj [.str why tw])).push (F.push _) (excObj 56 h.objs.size)
  have F' := (F.push (tupObj [.str why tw])).push (excObj 56 h.objs.size)
  rw [Heap.size_push] at N'
  have hlt : ∀ p ∈ news, p.1 < h.objs.size := fun p hp => Heap.lt_size (N p hp).1
  k_dflt cell_enter
  k_steps
  rename Fr _ _ _ _ => F2
  rename News _ _ _ _ => N2
  rename Fr h₀ L _ m => FG
  have Xh := (X.keeps FG.keep).keeps F2.keep
  have hC := Xh 56 _ rfl
  refine exc_init F2 N2 (fun q hq => ?_) hC (by decide) (by rw [PySem.sizeLine_eq]; show 1 ≤ _; omega) ?_
  · rcases List.mem_cons.mp hq with rfl | hq
    · exact Nat.ne_of_lt (Nat.lt_succ_self _)
    · exact Nat.ne_of_lt (Nat.lt_succ_of_lt (hlt q hq))
  intro t' h9 F9 N9 l1 l2
  k_steps
  refine exc_set1 (D := 31) F9 N9 (fun q hq => ?_) ((X.keeps FG.keep).keeps F9.keep) rfl rfl rfl (by rfl) (by rfl) fun h3 dx hsh k F3 N3 l3 => ?_
  · rcases List.mem_cons.mp hq with rfl | hq
    · exact Nat.ne_of_gt l2
    · rcases List.mem_cons.mp hq with rfl | hq
      · exact Nat.ne_of_lt (Nat.lt_succ_self _)
      · exact Nat.ne_of_lt (Nat.lt_succ_of_lt (hlt q hq))
  (try dsimp only)
  k_steps
  (try dsimp only)
  refine exc_set2 (D := 31) (pre := [(h.objs.size + 1, faultObj 56 t' dx)]) (post := (t', tupObj [.str why tw]) :: (h.objs.size, tupObj [.str why tw]) :: news) F3 N3 (fun q hq => ?_) (fun q hq => Nat.ne_of_lt (l3 q (.tail _ hq))) (.head _) ((X.keeps FG.keep).keeps F3.keep) rfl rfl rfl (by rfl) (by rfl) (by rfl) rfl rfl (by show (2 : Nat) ≤ _; omega) fun h4 F4 N4 => ?_
  · rw [List.mem_singleton.mp hq]; exact Nat.ne_of_lt (l3 (h.objs.size + 1, excObj 56 t') (.head _))
  (try dsimp only)
  k_steps
  rename Fr h₀ L _ m => kF
  rename News h₀ L _ _ => kN
  refine hret _ _ h4 _ kF (fault_swap kN) ⟨h.objs.size + 1, t', dx, _, _, tw, tw, rfl, rfl, rfl, fun q hq => Nat.lt_succ_of_lt (hlt q hq), l2, l3 _ (.tail _ (.head _))⟩))) only [↓heldQ_eq]

theorem part_13 : True := by
  w_top off
  trivial
/-! ## a fault in flight, its dict kept -/
def HasDict (h : Heap) (e dx : Addr) : Prop := ∃ o, h.get? e = some o ∧ o.dict = some dx
theorem HasDict.dk {h h' : Heap} {e dx : Addr} (x : HasDict h e dx) (k : DK h h') : HasDict h' e dx :=
  let ⟨o, ho, hd⟩ := x; let ⟨o', e1, _, d1⟩ := k e o ho; ⟨o', e1, d1.trans hd⟩
def RaisedF (base G : Heap) (l : List Env) (e C : Addr) (why : Str) (news : List (Addr × Obj)) (h : Heap) : Prop :=
  ∃ t tw dx es n tw', RaisedS base G l e (.ref C) t [.str why tw] ((dx, dictOf es n) :: news) h ∧ HasDict h e dx ∧ getL (Str.ofString "why") es = some (some (.str why tw'))
theorem RaisedF.sub {base G : Heap} {l : List Env} {e C : Addr} {why : Str} {news news' : List (Addr × Obj)} {h : Heap} (R : RaisedF base G l e C why news' h) (hs : ∀ p ∈ news, p ∈ news') : RaisedF base G l e C why news h := by
  obtain ⟨t, tw, dx, es, n, tw', ⟨⟨B, b1, b2, b3, b4⟩, r⟩, hd⟩ := R
  exact ⟨t, tw, dx, es, n, tw', ⟨⟨B, b1, b2, fun q hq => b3 q ((List.mem_cons.mp hq).elim (fun e => e ▸ .head _) fun h => .tail _ (hs q h)), b4⟩, r⟩, hd⟩

section
variable {M : Model} {A : Around} {E : Value → Shared → Prop} {s' : Shared} {base g g₂ : Heap} {outer : List Env} {L a e t dx C : Addr} {m : Str → Option Value} {name : Str} {scope : Scope} {cd : Value} {Q : Unit → Shared → Prop} {news : List (Addr × Obj)} {why : Str} {tw tw' : Tok} {es : List DictEntry} {n : Nat}
theorem leave_fault {env : Env} (K : Below A base outer g) (F : Fr g L s'.heap m) (N : News g L s'.heap ((e, faultObj C t dx) :: (t, tupObj [.str why tw]) :: (dx, dictOf es n) :: news))
    (hne : ∀ q ∈ news, q.1 < e) (het : e < t) (htd : t < dx) (hw : getL (Str.ofString "why") es = some (some (.str why tw')))
    (hQ : ∀ h', RaisedF base g outer e C why news h' → g.UpToSlots h' → Q () { s' with heap := h' }) (hf : env.frame = some L := by rfl) (hk : env.scope.kind = .function := by rfl) :
    wpAny M (A.deeper env) (leaving env (.ref e)) Q E s' := by
  have hnew : base.get? L = none := fresh_of_stays K.stays (kts_self F)
  have K' : Below (A.deeper env) base (env :: outer) s'.heap := ⟨Around.frames_deeper K.stack, fun b o e => F.keep b o (K.stays b o e), .cons (by rw [hk]; decide) hf F.ns hnew (K.frames.of_keeps fun b o e _ => ⟨o, F.keep b o e, rfl⟩)⟩
  have kmem : ∀ {b : Addr}, b ∈ (env :: outer).filterMap (·.frame) → b = L ∨ b ∈ outer.filterMap (·.frame) := fun {b} hm => by
    obtain ⟨env', he, hf'⟩ := List.mem_filterMap.mp hm
    rcases List.mem_cons.mp he with rfl | he
    · rw [hf] at hf'; exact .inl (Option.some.inj hf').symm
    · exact .inr (List.mem_filterMap.mpr ⟨env', he, hf'⟩)
  have Ze := N _ (.head _)
  have Zt := N _ (.tail _ (.head _))
  have gone : ∀ {b : Addr}, g.get? b = none → b ≠ L → b ∉ (env :: outer).filterMap (·.frame) := fun {b} e0 hL hm => by
    rcases kmem hm with z | z
    · exact hL z
    · obtain ⟨o, ho, _⟩ := (K.frames.mem z).2
      rw [e0] at ho; cases ho
  have hin : ∀ v ∈ (env :: outer), ∀ b, v.frame = some b → b ∈ e :: t :: (env :: outer).filterMap (·.frame) := fun v he b hb => .tail _ (.tail _ (List.mem_filterMap.mpr ⟨v, he, hb⟩))
  have notin : ∀ {b : Addr}, b ≠ e → b ≠ t → b ∉ (env :: outer).filterMap (·.frame) → b ∉ e :: t :: (env :: outer).filterMap (·.frame) := fun a1 a2 a3 hm => by
    rcases List.mem_cons.mp hm with z | hm
    · exact a1 z
    · rcases List.mem_cons.mp hm with z | hm
      · exact a2 z
      · exact a3 hm
  have ne_of : ∀ {b c : Addr} {o : Obj}, g.get? b = some o → g.get? c = none → b ≠ c := fun h1 h2 q => by rw [q, h2] at h1; cases h1
  have st : base.StaysIn (hideAll s'.heap (e :: t :: (env :: outer).filterMap (·.frame))) := fun b o q =>
    hideAll_get _ (K'.stays b o q) (notin (ne_of (K.stays b o q) Ze.2.2) (ne_of (K.stays b o q) Zt.2.2) fun hm => by
      rw [(K'.frames.mem hm).1] at q; cases q)
  have sg : ∀ b o, g.get? b = some o → b ∉ outer.filterMap (·.frame) → (hideAll s'.heap (e :: t :: (env :: outer).filterMap (·.frame))).get? b = some o := fun b o q nm =>
    hideAll_get _ (F.keep b o q) (notin (ne_of q Ze.2.2) (ne_of q Zt.2.2) fun hm => by
      rcases kmem hm with z | z
      · rw [z, kts_self F] at q
        cases q
      · exact nm z)
  have hl : ∀ q ∈ (dx, dictOf es n) :: news, (hideAll s'.heap (e :: t :: (env :: outer).filterMap (·.frame))).get? q.1 = some q.2 ∧ g.get? q.1 = none ∧ base.get? q.1 = none := fun q hq => by
    have Nq := N q (.tail _ (.tail _ hq))
    refine ⟨hideAll_get _ Nq.1 (notin ?_ ?_ (gone Nq.2.2 Nq.2.1)), Nq.2.2, fresh_of_stays K.stays Nq.2.2⟩
    · rcases List.mem_cons.mp hq with rfl | hq
      · exact Nat.ne_of_gt (Nat.lt_trans het htd)
      · exact Nat.ne_of_lt (hne q hq)
    · rcases List.mem_cons.mp hq with rfl | hq
      · exact Nat.ne_of_gt htd
      · exact Nat.ne_of_lt (Nat.lt_trans (hne q hq) het)
  refine Calmly.any (calm_leaving _ _) ?_
  refine wpAny_leaving_firstW (base := hideAll s'.heap (e :: t :: (env :: outer).filterMap (·.frame))) (a0 := .ref t) K'.stack (funFrames_hide K'.frames hin) hf Ze.1 (fun b o q => of_hideAll _ q) (hideAll_none _ (.head _)) rfl rfl rfl fun h' hL dk => ?_
  obtain ⟨k1, ⟨_, _, k2⟩, k3, k4⟩ := hL
  refine hQ h' ⟨t, tw, dx, es, n, tw', ⟨⟨_, st, sg, hl, ⟨k1, hideAll_none _ (.head _), k2, k3⟩, hideAll_none _ (.tail _ (.head _))⟩, Heap.TupAt.of_slots ⟨_, _, Zt.1, rfl, rfl⟩ k4⟩, HasDict.dk ⟨_, Ze.1, rfl⟩ dk, hw⟩ ((Heap.UpToSlots.of_keeps F.keep).trans k4)

theorem leave_fault_on (K : Below A base outer g) (F : Fr g L g₂ m) (R : RaisedF base g₂ (envOf name scope L a cd :: outer) e C why news s'.heap) (hsm : g₂.UpToSlots s'.heap)
    (hQ : ∀ h', RaisedF base g outer e C why news h' → g.UpToSlots h' → Q () { s' with heap := h' }) :
    wpAny M (A.deeper (envOf name scope L a cd)) (leaving (envOf name scope L a cd) (.ref e)) Q E s' := by
  obtain ⟨t, tw, dx, es, n, tw', R, hd, hw⟩ := R
  refine Calmly.any (calm_leaving _ _) ?_
  exact leave_onS K F R hsm fun h' R' _ hs' dk => hQ h' ⟨t, tw, dx, es, n, tw', R', hd.dk dk, hw⟩ hs'
end

/-- what a fault that is raised by the call gives -/
def Raises (K : Frag) (C : Addr) (E : Value → Shared → Prop) : Value → Shared → Prop := fun v s₁ => ∃ e t dx, v = .ref e ∧ K.In s₁.heap ∧ s₁.heap.get? e = some (faultObj C t dx) ∧ E (.ref e) s₁
theorem raise_fault {M : Model} {A : Around} {E : Value → Shared → Prop} {s : Shared} {env : Env} {K : Frag} {C : Addr} {x : Sem Value} {Q : Flow → Shared → Prop} (q : ktsIn K C "BaseException" = true) (hh : A.handled = none)
    (h : wpAny M A x (Raises K C E) E s) : wpAny M A (raiseStmt env (some x) none) Q E s := by
  unfold raiseStmt
  refine wpAny_bind (wpAny_mono h (fun v s₁ h₁ => ?_) fun _ _ x => x)
  obtain ⟨e, t, dx, rfl, X, he, hE⟩ := h₁
  obtain ⟨nm, q', N, bs, bm, hdct, sn, sub, ab, col, dd, k0, k1, k2, k3, k5, newId, hC, hbase, hbT⟩ := kts_cls X q
  have hcB : (Value.ref C :: bm).contains (.type "BaseException") = true := by rw [List.contains_cons, hbase, Bool.or_true]
  obtain ⟨hp, g, d, tk, os⟩ := s₁
  repeat (first | with_reducible refine wpAny_loadPart_at he ?_ | with_reducible refine wpAny_loadPart_at hC ?_ | (with_reducible refine wpAny_isSubtype_exc hC ?_; rw [hcB]) | wp_step)
  exact wpAny_raiseNew_none hh hE
theorem exec_raise {prog : Program} {w : World} {A : Around} {E : Value → Shared → Prop} {s : Shared} {env : Env} {K : Frag} (C : Addr) {x : Expr} {pos : Pos} {Q : Flow → Shared → Prop} (q : ktsIn K C "BaseException" = true) (hh : A.handled = none)
    (h : wpAny (model prog w) A (eval x env) (Raises K C E) E s) : wpAny (model prog w) A (exec (.Raise (some x) none pos) env) Q E s := by
  rw [arm_exec_Raise]
  simp only [evalOpt, Option.map]
  exact wpAny_bind (wpAny_standAt (raise_fault q hh (wpAny_bind (wpAny_mono h (fun v s₃ h₃ => wpAny_bind (wpAny_standAt (wpAny_pure h₃))) fun _ _ x => x))))

/-- a call that may raise the faults X -/
def CalledE (w : World) (f : Addr) (d u : Nat) (args : List Value) (news : List (Addr × Obj)) (Pb : Heap → Prop) (R : Value → List (Addr × Obj) → Prop) (X : Addr → Str → Prop) : Prop :=
  ∀ (mean : ExcName → Option Value) (mg mb : Str → Option Value) (dp un : Nat) (gd : Option (List Code)) (cn : Str) (cs : Scope) (a : Addr) (ccd : Value) (cl : List (Str × Addr)) (outer : List Env) (A₀ : Around)
    (base h₀ : Heap) (L : Addr) (m : Str → Option Value) (s : Shared) (Q E : Value → Shared → Prop),
    Below A₀ base outer h₀ → Fr h₀ L s.heap m → (hd.heap_1 w.params).In h₀ → News h₀ L s.heap news → Top vw (looseW vw []) mean mg mb h₀ → cs.kind = .function → Pb base →
    dp + d < recursionLimit → un + u < cLine →
    (∀ v tl h' tk', Fr h₀ L h' m → News h₀ L h' (tl ++ news) → R v tl → Q v { s with heap := h', toks := tk' }) →
    (∀ e C why h' tk' g, X C why → Fr h₀ L g m → RaisedF base g (envX cn cs L a ccd cl :: outer) e C why news h' → g.UpToSlots h' → E (.ref e) { s with heap := h', toks := tk' }) →
    wpAny (model PySem.Challenge.rw_pf0340_01.row.prog w) (ktrTop dp un gd cn cs L a ccd cl outer) (call (.ref f) args) Q E s

theorem CalledE.use {w : World} {f : Addr} {d u : Nat} {args : List Value} {news : List (Addr × Obj)} {Pb : Heap → Prop} {R : Value → List (Addr × Obj) → Prop} {Xx : Addr → Str → Prop}
    {mean : ExcName → Option Value} {mg mb : Str → Option Value} {dp un : Nat} {gd : Option (List Code)} {cn : Str} {cs : Scope} {a : Addr} {ccd : Value} {cl : List (Str × Addr)} {outer : List Env} {A₀ : Around}
    {base h₀ : Heap} {L : Addr} {m : Str → Option Value} {s : Shared} {Q E : Value → Shared → Prop} (B : Below A₀ base outer h₀) (F : Fr h₀ L s.heap m) (X : (hd.heap_1 w.params).In h₀) (N : News h₀ L s.heap news)
    (T : Top vw (looseW vw []) mean mg mb h₀) (hk : cs.kind = .function) (c : CalledE w f d u args news Pb R Xx) (hb : Pb base) (hd : dp + d < recursionLimit) (hu : un + u < cLine)
    (ret : ∀ v tl h' tk', Fr h₀ L h' m → News h₀ L h' (tl ++ news) → R v tl → Q v { s with heap := h', toks := tk' })
    (exc : ∀ e C why h' tk' g, Xx C why → Fr h₀ L g m → RaisedF base g (envX cn cs L a ccd cl :: outer) e C why news h' → g.UpToSlots h' → E (.ref e) { s with heap := h', toks := tk' }) :
    wpAny (model PySem.Challenge.rw_pf0340_01.row.prog w) (ktrTop dp un gd cn cs L a ccd cl outer) (call (.ref f) args) Q E s := c _ _ _ _ _ _ _ _ _ _ _ _ _ _ _ _ _ _ _ _ B F X N T hk hb hd hu ret exc

theorem k44 (w : World) : ktsIn (hd.heap_1 w.params) 44 "BaseException" = true := by rfl
theorem k56 (w : World) : ktsIn (hd.heap_1 w.params) 56 "BaseException" = true := by rfl
theorem exec_raise44 {prog : Program} {w : World} {A : Around} {E : Value → Shared → Prop} {s : Shared} {env : Env} {x : Expr} {pos : Pos} {Q : Flow → Shared → Prop} (hh : A.handled = none)
    (h : wpAny (model prog w) A (eval x env) (Raises (hd.heap_1 w.params) 44 E) E s) : wpAny (model prog w) A (exec (.Raise (some x) none pos) env) Q E s := exec_raise 44 (k44 w) hh h
theorem exec_raise56 {prog : Program} {w : World} {A : Around} {E : Value → Shared → Prop} {s : Shared} {env : Env} {x : Expr} {pos : Pos} {Q : Flow → Shared → Prop} (hh : A.handled = none)
    (h : wpAny (model prog w) A (eval x env) (Raises (hd.heap_1 w.params) 56 E) E s) : wpAny (model prog w) A (exec (.Raise (some x) none pos) env) Q E s := exec_raise 56 (k56 w) hh h

theorem raised_leave {M : Model} {A : Around} {base g : Heap} {outer : List Env} {env : Env} {L C : Addr} {m : Str → Option Value} {news tl : List (Addr × Obj)} {why : Str} {v : Value} {K : Frag} {s : Shared} {E0 E1 : Value → Shared → Prop}
    (B : Below A base outer g) (F : Fr g L s.heap m) (X : K.In g) (N : News g L s.heap (tl ++ news)) (r : IsFault C why news v tl)
    (hQ : ∀ e h', RaisedF base g outer e C why news h' → g.UpToSlots h' → E0 (.ref e) { s with heap := h' }) (hf : env.frame = some L := by rfl) (hk : env.scope.kind = .function := by rfl) :
    Raises K C (fun e s' => wpAny M (A.deeper env) (leaving env e) (fun _ s'' => E0 e s'') E1 s') v s := by
  obtain ⟨e, t, dx, es, n, tw, tw', rfl, rfl, hw, hne, het, htd⟩ := r
  exact ⟨e, t, dx, rfl, X.keeps F.keep, (N _ (.head _)).1, leave_fault B F N hne het htd hw (hQ e) hf hk⟩

theorem on_leave {M : Model} {A : Around} {E : Value → Shared → Prop} {s' : Shared} {base g g₂ : Heap} {outer : List Env} {L a e C : Addr} {m : Str → Option Value} {name : Str} {scope : Scope} {cd : Value} {Q : Unit → Shared → Prop} {news : List (Addr × Obj)} {why : Str}
    (R : RaisedF base g₂ (envOf name scope L a cd :: outer) e C why news s'.heap) (F : Fr g L g₂ m) (hsm : g₂.UpToSlots s'.heap) (K : Below A base outer g)
    (hQ : ∀ h', RaisedF base g outer e C why news h' → g.UpToSlots h' → Q () { s' with heap := h' }) :
    wpAny M (A.deeper (envOf name scope L a cd)) (leaving (envOf name scope L a cd) (.ref e)) Q E s' := leave_fault_on K F R hsm hQ

theorem part_14 : True := by
  w_top off
  trivial
theorem said_15 : True := by
  k_with "my:my startE" => (unfold CalledE; k_fill; intros)
  k_with "my:my enterC" => (refine wpAny_call ?_; k_dflt ( refine' code_defC ?k1 ?k2 ?k3 ?k4 ?k5 ?kA ?kF ?kK ?k6 ?k7 ?k8 ?k9 ?kB ?kD ?_ ?c2 ?c3 ?c4; (case kA => exact rfl); (case kF => exact rfl); (case kK => assumption); (case k1 => k_asm); (case k2 => k_asm); (case k3 => k_asm); (case k4 => k_asm); (case k5 => k_asm); (case k6 => k_is); (case k7 => k_is); (case k8 => ktr_room); (case k9 => exact BindsTo.of_eq rfl); (case kB => exact rfl); (case kD => decide +kernel); (case c2 => exact rfl); (case c3 => exact rfl); (case c4 => exact rfl); k_whole; intro g' L' h' tk' cells' FG' F' N' Y' B' X' T' l1; (try k_lt l1); k_cells Y'; (try simp only [List.cons_append, List.nil_append] at N'); (try dsimp only); (try k_lift B')); (try k_extra "my:my fold"); show (let Aq : Around := _; wpAny _ Aq _ _ _ _); intro Aq)
  k_with "my:call type:bytes" => (k_here; (fail_if_success plain_pass); (with_reducible show wpAny _ _ (call (Value.type "bytes") [Value.ref _]) _ _ _); refine Stop.intro ?_)
  k_with "my:exec Raise some none" => (k_here; (fail_if_success plain_pass); (with_reducible show wpAny _ _ (exec (Stmt.Raise (some (Expr.Call (Expr.Name ("Misused" : Str) _) _ _ _)) _ _) _) _ _ _); k_dflt (refine exec_raise44 rfl ?_))
  k_with "my:exec Raise some none" => (k_here; (fail_if_success plain_pass); (with_reducible show wpAny _ _ (exec (Stmt.Raise (some (Expr.Call (Expr.Name ("BadPacket" : Str) _) _ _ _)) _ _) _) _ _ _); k_dflt (refine exec_raise56 rfl ?_))
  k_with "my:call ref" => (k_here; (fail_if_success plain_pass); (with_reducible show wpAny _ _ (call (Value.ref 44) [_]) _ _ _); k_dflt ( refine' Called.use ?k1 ?k2 ?k3 ?k4 ?k5 ?k6 (fault_44 _ _ _ _) trivial ?kd ?ku ?_; k_extra "my:my facts"; intro v9 tl9 h9 tk9 F9 N9 r9; (try dsimp only)))
  k_with "my:call ref" => (k_here; (fail_if_success plain_pass); (with_reducible show wpAny _ _ (call (Value.ref 56) [_]) _ _ _); k_dflt ( refine' Called.use ?k1 ?k2 ?k3 ?k4 ?k5 ?k6 (fault_56 _ _ _ _) trivial ?kd ?ku ?_; k_extra "my:my facts"; intro v9 tl9 h9 tk9 F9 N9 r9; (try dsimp only)))
  k_with "my:my raised" => k_dflt (refine' raised_leave ?raB ?raF ?raX ?raN ?raI ?_; (case raI => assumption); (case raB => assumption); (case raF => k_asm); (case raX => assumption); (case raN => k_asm); intro e8 h8 R8 s8)
  trivial
noncomputable def tFits : Str := Str.ofString "the number does not fit its octets"
noncomputable def octs (x : Int) (n : Nat) : List Int := (List.range n).map fun p => x / 256 ^ (n - 1 - p) % 256
theorem octs_eq (x : Int) (n : Nat) : (rangeKs 0 ((n : Int) - 0).toNat).map (fun k' => Builtin.bitAnd (x.fdiv (2 ^ (8 * ((n : Int) - 1 - k')).toNat)) 255) = octs x n := by
  unfold rangeKs octs
  have e : ((n : Int) - 0).toNat = n := by omega
  rw [e, List.map_map]
  refine List.map_congr_left fun p hp => ?_
  have hp := List.mem_range.mp hp
  show Builtin.bitAnd (x.fdiv (2 ^ (8 * ((n : Int) - 1 - (0 + (p : Int)))).toNat)) 255 = _
  have e1 : (8 * ((n : Int) - 1 - (0 + (p : Int)))).toNat = 8 * (n - 1 - p) := by omega
  rw [bitAnd_m8, e1, Int.pow_mul, fd (by exact Int.le_of_lt (Int.pow_pos (by decide)))]
  rfl
theorem octs_in (x : Int) (n : Nat) : KBa.In (octs x n) := fun k hk => by
  obtain ⟨p, _, rfl⟩ := List.mem_map.mp hk
  omega
theorem octs_len (x : Int) (n : Nat) : (octs x n).length = n := by simp [octs]
theorem exc_end {X : Addr → Str → Prop} {h₀ : Heap} {L : Addr} {m : Str → Option Value} {s : Shared} {base : Heap} {l : List Env} {news news' : List (Addr × Obj)} {E : Value → Shared → Prop} {e C : Addr} {why : Str} {h' : Heap} {tk' : Nat} {g : Heap}
    (hexc : ∀ e C why h' tk' g, X C why → Fr h₀ L g m → RaisedF base g l e C why news h' → g.UpToSlots h' → E (.ref e) { s with heap := h', toks := tk' })
    (R : RaisedF base g l e C why news' h') (F : Fr h₀ L g m) (hs : ∀ p ∈ news, p ∈ news') (u : g.UpToSlots h') (x : X C why) : E (.ref e) { s with heap := h', toks := tk' } :=
  hexc e C why h' tk' g x F (R.sub hs) u
theorem pow_bytes (n : Nat) : (2 : Int) ^ (8 * (n : Int)).toNat = 256 ^ n := by
  have e1 : (8 * (n : Int)).toNat = 8 * n := by omega
  rw [e1, Int.pow_mul]; rfl
theorem fits_iff {x : Int} {n : Nat} (h : ¬ x < 0) : x.fdiv (2 ^ (8 * (n : Int)).toNat) = 0 ↔ (0 ≤ x ∧ x < 256 ^ n) := by
  have hp : (0 : Int) < 256 ^ n := Int.pow_pos (by decide)
  rw [pow_bytes, fd (Int.le_of_lt hp)]
  constructor
  · intro e
    refine ⟨by omega, ?_⟩
    have := Int.lt_ediv_add_one_mul_self x hp
    rw [e] at this; omega
  · intro e
    exact Int.ediv_eq_zero_of_lt e.1 e.2
theorem octets_c (w : World) (news : List (Addr × Obj)) (x : Int) (tx : Tok) (n : Nat) (ts : Tok) (hn : n ≤ 16) :
    CalledE w 70 16 130 [.int x tx, .int (n : Int) ts] news (fun _ => True) (fun v tl => (0 ≤ x ∧ x < 256 ^ n) ∧ (∃ b t, v = .bytes b t ∧ KBw.bInts b = octs x n) ∧ tl = []) (fun C why => ¬ (0 ≤ x ∧ x < 256 ^ n) ∧ C = 44 ∧ why = tFits) := by
  refine of_heldQ ?_
  simp (disch := (refine anchorQ ?_; k_dflt (
  k_extra "my:my startE"
  rename_i hret hexc
  k_extra "my:my enterC"
  k_steps
  · k_extra "my:my raised"
    exact exc_end hexc (by assumption) (by assumption) (by k_extra "my:my sub") (by assumption) ⟨fun h => by omega, rfl, rfl⟩
  · k_extra "my:my raised"
    rename Int.fdiv _ _ ≠ _ => hz
    rename ¬ x < 0 => h0
    exact exc_end hexc (by assumption) (by assumption) (by k_extra "my:my sub") (by assumption) ⟨fun h => hz ((fits_iff h0).mpr h), rfl, rfl⟩
  · refine Stop.out ?_
    rename Int.fdiv _ _ = _ => hz
    rename ¬ x < 0 => h0
    rename IntsAre _ _ => hI
    rename Fr _ _ _ _ => F
    rename News _ _ _ _ => N
    rw [octs_eq] at hI
    refine KBa.make_K F N rfl ⟨_, (N _ (.head _)).1, rfl, _, rfl⟩ hI (octs_in x n) (by rw [octs_len]; omega) fun h9 t9 k9 F9 N9 hin => ?_
    k_steps
    exact ret0 hret (by k_asm) (by k_asm) (by k_extra "my:my sub") ⟨(fits_iff h0).mp hz, ⟨_, _, rfl, KBa.ints_make hin⟩, rfl⟩))) only [↓heldQ_eq]
theorem octets1_c (w : World) (news : List (Addr × Obj)) (x : Int) (tx ts : Tok) :
    CalledE w 70 16 130 [.int x tx, .int 1 ts] news (fun _ => True) (fun v tl => (0 ≤ x ∧ x < 256 ^ 1) ∧ (∃ b t, v = .bytes b t ∧ KBw.bInts b = octs x 1) ∧ tl = []) (fun C why => ¬ (0 ≤ x ∧ x < 256 ^ 1) ∧ C = 44 ∧ why = tFits) := octets_c w news x tx 1 ts (by decide)
theorem octets2_c (w : World) (news : List (Addr × Obj)) (x : Int) (tx ts : Tok) :
    CalledE w 70 16 130 [.int x tx, .int 2 ts] news (fun _ => True) (fun v tl => (0 ≤ x ∧ x < 256 ^ 2) ∧ (∃ b t, v = .bytes b t ∧ KBw.bInts b = octs x 2) ∧ tl = []) (fun C why => ¬ (0 ≤ x ∧ x < 256 ^ 2) ∧ C = 44 ∧ why = tFits) := octets_c w news x tx 2 ts (by decide)
theorem octets4_c (w : World) (news : List (Addr × Obj)) (x : Int) (tx ts : Tok) :
    CalledE w 70 16 130 [.int x tx, .int 4 ts] news (fun _ => True) (fun v tl => (0 ≤ x ∧ x < 256 ^ 4) ∧ (∃ b t, v = .bytes b t ∧ KBw.bInts b = octs x 4) ∧ tl = []) (fun C why => ¬ (0 ≤ x ∧ x < 256 ^ 4) ∧ C = 44 ∧ why = tFits) := octets_c w news x tx 4 ts (by decide)
theorem octets16_c (w : World) (news : List (Addr × Obj)) (x : Int) (tx ts : Tok) :
    CalledE w 70 16 130 [.int x tx, .int 16 ts] news (fun _ => True) (fun v tl => (0 ≤ x ∧ x < 256 ^ 16) ∧ (∃ b t, v = .bytes b t ∧ KBw.bInts b = octs x 16) ∧ tl = []) (fun C why => ¬ (0 ≤ x ∧ x < 256 ^ 16) ∧ C = 44 ∧ why = tFits) := octets_c w news x tx 16 ts (by decide)
theorem said_16 : True := by
  k_with "my:call ref" => (k_here; (fail_if_success plain_pass); (with_reducible show wpAny _ _ (call (Value.ref 70) _) _ _ _); k_dflt ( (first | refine' CalledE.use ?k1 ?k2 ?k3 ?k4 ?k5 ?k6 (octets1_c _ _ _ _ _) trivial ?kd ?ku ?_ ?_ | refine' CalledE.use ?k1 ?k2 ?k3 ?k4 ?k5 ?k6 (octets2_c _ _ _ _ _) trivial ?kd ?ku ?_ ?_ | refine' CalledE.use ?k1 ?k2 ?k3 ?k4 ?k5 ?k6 (octets4_c _ _ _ _ _) trivial ?kd ?ku ?_ ?_ | refine' CalledE.use ?k1 ?k2 ?k3 ?k4 ?k5 ?k6 (octets16_c _ _ _ _ _) trivial ?kd ?ku ?_ ?_); k_extra "my:my facts"; (focus (intro v9 tl9 h9 tk9 F9 N9 r9; obtain ⟨hr9, ⟨b9, t9, q9, hb9⟩, q8⟩ := r9; subst q9 q8; (try simp only [List.nil_append] at N9); (try dsimp only); (try k_extra "my:my fold")))))
  trivial

theorem part_15 : True := by
  w_top off
  trivial
/-- the dict of a packet -/
noncomputable abbrev ipEs (h0 h1 h2 h3 h4 h5 h6 h7 h8 : Int) (k0 k1 k2 k3 k4 k5 k6 k7 k8 : Tok) (v0 v1 v2 v3 v4 v5 v6 v7 v8 : Value) : List DictEntry := [⟨h0, .str (Str.ofString "source") k0, v0⟩, ⟨h1, .str (Str.ofString "target") k1, v1⟩, ⟨h2, .str (Str.ofString "protocol") k2, v2⟩, ⟨h3, .str (Str.ofString "data") k3, v3⟩, ⟨h4, .str (Str.ofString "heads") k4, v4⟩, ⟨h5, .str (Str.ofString "hop") k5, v5⟩, ⟨h6, .str (Str.ofString "dscp") k6, v6⟩, ⟨h7, .str (Str.ofString "ecn") k7, v7⟩, ⟨h8, .str (Str.ofString "flow") k8, v8⟩]
/-- a fresh packet -/
inductive IsNew (x y p b : Value) (news : List (Addr × Obj)) (v : Value) (tl : List (Addr × Obj)) : Prop
  | mk (e dx l : Addr) (h0 h1 h2 h3 h4 h5 h6 h7 h8 : Int) (k0 k1 k2 k3 k4 k5 k6 k7 k8 u5 u6 u7 u8 : Tok) (hv : v = .ref e) (ht : tl = [(l, listOf #[] 0), (e, instObj 87 dx), (dx, dictOf (ipEs h0 h1 h2 h3 h4 h5 h6 h7 h8 k0 k1 k2 k3 k4 k5 k6 k7 k8 x y p b (.ref l) (.int 64 u5) (.int 0 u6) (.int 0 u7) (.int 0 u8)) 9)])
    (lt : ∀ q ∈ news, q.1 < dx) (lu : dx < e) (lv : e < l) : IsNew x y p b news v tl
theorem ip6_c (w : World) (news : List (Addr × Obj)) (x y p : Int) (b : Array UInt8) (t1 t2 t3 t4 : Tok) :
    Called w 87 4 60 [.int x t1, .int y t2, .int p t3, .bytes b t4] news (fun _ => True) (IsNew (.int x t1) (.int y t2) (.int p t3) (.bytes b t4) news) := by
  refine of_heldQ ?_
  simp (disch := (refine anchorQ ?_; k_dflt (
  unfold Called
  k_fill
  intro mean mg mb dp un gd cn cs a ccd cl outer A₀ base h₀ L m s Q E B F X N T hk hb hdd hu hret
  refine call_cls F X N (by rfl) (by rfl) (by rfl) fun x' d' h' F' N' l1 l2 => ?_
  have l3 := l1
  (try k_lt l1); (try k_lt2 l2); (try k_sweep)
  have hNFN : NoFoldN := trivial
  k_dflt cell_enter
  k_steps
  rename _ ∧ _ ∧ AllLt _ _ => l4
  exact hret _ [_, _, _] _ _ (by k_asm) (by k_asm) ⟨x', d', _, _, _, _, _, _, _, _, _, _, _, _, _, _, _, _, _, _, _, _, _, _, _, rfl, rfl, l3, l2, l4.1⟩))) only [↓heldQ_eq]
theorem said_17 : True := by
  k_with "my:call ref" => (k_here; (fail_if_success plain_pass); (with_reducible show wpAny _ _ (call (Value.ref 87) _) _ _ _); k_dflt ( refine' Called.use ?k1 ?k2 ?k3 ?k4 ?k5 ?k6 (ip6_c _ _ _ _ _ _ _ _ _ _) trivial ?kd ?ku ?_; k_extra "my:my facts"; intro v9 tl9 h9 tk9 F9 N9 r9; (try dsimp only); obtain ⟨e9, d9, l9, _, _, _, _, _, _, _, _, _, _, _, _, _, _, _, _, _, _, _, _, _, _, q9, q8, lt9, lu9, lv9⟩ := r9; subst q9 q8; (try simp only [List.cons_append, List.nil_append] at N9); have lu9 := ltN lu9; have lv9 := ltN lv9; (try k_extra "my:my fold")))
  trivial

theorem part_16 : True := by
  w_top off
  trivial
noncomputable def datHd (h : Hd) : Dat := .tuple [.int h.1, .bytes (byteArr h.2)]
theorem bytes_eq {b : Array UInt8} {ks : List Int} (h : KBw.bInts b = ks) : b = byteArr ks := by
  subst h
  unfold byteArr KBw.bInts
  rw [List.map_map]
  have : ∀ l : List UInt8, List.map ((fun n : Int => n.toNat.toUInt8) ∘ fun c : UInt8 => ((c.toNat : Nat) : Int)) l = l := fun l => by
    conv => rhs; rw [← List.map_id l]
    refine List.map_congr_left fun c _ => ?_
    simp
  rw [this]
section
variable {prog : Program} {w : World} {A : Around} {E : Value → Shared → Prop} {s : Shared}
theorem bb_look : typeLookup (.type "bytes") "__bytes__" = pure (some (.builtin "bytes.__bytes__")) := by rw [typeLookup_type, builtinLookup_eq_fast]; kernel_rfl
theorem bb_new {b : Array UInt8} {t : Tok} {Q : Value → Shared → Prop} (h : Q (.bytes b t) s) : codeAny (model prog w) A (.call (.builtin "bytes.__new__") ⟨[.type "bytes", .bytes b t], []⟩) (wants Q E) s := by
  refine codeAny_of_tree ?_
  show wpAny _ A.in1 (do checkBuiltinCall "bytes.__new__" ⟨[.type "bytes", .bytes b t], []⟩; again (.builtin "bytes.__new__" ⟨[.type "bytes", .bytes b t], []⟩)) _ _ s
  refine wpAny_bind (wpAny_of_eq (F.bm_newCall _) (wpAny_pure ⟨plainId_quiet F.bm_plain _, codeAny_builtin F.bm_entry ?_⟩))
  rw [Around.under_plainId F.bm_plain _]
  unfold Builtin.«bytes.__new__»
  refine wpAny_bind (wpAny_of_eq (a := true) rfl ?_)
  refine bm_if_false rfl ?_
  refine wpAny_bind (wpAny_of_eq F.bm_sub ?_)
  refine bm_if_false rfl ?_
  refine wpAny_bind (wpAny_of_eq (F.bm_bind _) ?_)
  refine wpAny_bind (wpAny_of_eq (a := ()) rfl ?_)
  refine wpAny_bind (wpAny_of_eq (a := ()) rfl ?_)
  refine bm_if_false rfl ?_
  have e : specialOf (.bytes b t) "__bytes__" = pure (some (.builtin "bytes.__bytes__")) := (show specialOf (.bytes b t) "__bytes__" = typeLookup (.type "bytes") "__bytes__" from rfl).trans bb_look
  refine wpAny_bind (wpAny_of_eq e ?_)
  refine wpAny_bind (wpAny_rule ?_)
  refine wpAny_bind (wpAny_of_eq (a := .type "bytes") rfl ?_)
  refine bm_if_true (by decide) ?_
  show wpAny _ _ (if (Value.type "bytes" == Value.type "bytes") = true then _ else _) _ _ _
  refine bm_if_true (by decide) ?_
  first
    | exact wpAny_pure h
    | exact wpAny_bind (wpAny_pure (wpAny_pure h))
/-- the octets of octets -/
theorem call_bytes_bytes {b : Array UInt8} {t : Tok} {Q : Value → Shared → Prop} (h : Q (.bytes b t) s) : wpAny (model prog w) A (call (.type "bytes") [.bytes b t]) Q E s := by
  refine callType_codes (Q₁ := fun obj s₁ => s₁.TypeIs obj "bytes" ∧ Q obj s₁) F.bm_called (F.bm_typeCall _) F.entry_object_init (bb_new ⟨PySem.W.typeIs_bytes _ _ _, h⟩) fun obj s₁ h₁ => ?_
  exact ⟨h₁.1, F.args_object_init_2 obj _, object_init_meets F.bm_called.init.lookup F.bm_called.made (by decide) prog w A.in1 _ s₁ ⟨h₁.1, rfl, h₁.2⟩⟩
end
theorem said_18 : True := by
  k_with "my:call type:bytes" => (k_here; (with_reducible show wpAny _ _ (call (Value.type "bytes") [Value.bytes _ _]) _ _ _); refine call_bytes_bytes ?_)
  trivial
theorem knows6 {h₀ h : Heap} {L : Addr} {m : Str → Option Value} {a b c d g f : Str} {u v x z t r : Value} (F : Fr h₀ L h m) (e : m a = some u) (e2 : m b = some v) (e3 : m c = some x) (e4 : m d = some z) (e5 : m g = some t) (e6 : m f = some r) :
    Fr h₀ L h (fun y => if y = a then some u else if y = b then some v else if y = c then some x else if y = d then some z else if y = g then some t else if y = f then some r else m y) := knows F [(a, u), (b, v), (c, x), (d, z), (g, t), (f, r)] (by simp [e, e2, e3, e4, e5, e6])
theorem cut_of {ks : List Int} {x : Array UInt8} {a e : Int} (h : KBw.bInts x = List.take (clipAt ks.length e - clipAt ks.length a) (List.drop (clipAt ks.length a) ks)) (ha : 0 ≤ a) (hae : a ≤ e) (he : e ≤ ks.length) : KBw.bInts x = cut ks a e := by
  rw [h, clipAt_in ha (by omega), clipAt_in (by omega) he, cut, List.drop_take]
theorem datBytes {news : List (Addr × Obj)} {x : Array UInt8} {ks : List Int} {t : Tok} (h : KBw.bInts x = ks) : DatIn news (.bytes x t) (.bytes (byteArr ks)) := by rw [← bytes_eq h]; exact .bytes _ _
theorem snocHd {rest : List (Addr × Obj)} {vs : List Value} {hs : List Hd} {D : Addr} {o : Obj} {kind : Int} {t t' : Tok} {x : Array UInt8} {ks : List Int} {n : Nat} (hda : DatAll rest vs (hs.map datHd)) (ho : o = { cls := .type "tuple", data := .seq [.int kind t, .bytes x t'].toArray n })
    (hx : KBw.bInts x = ks) : DatAll ((D, o) :: rest) (vs ++ [.ref D]) ((hs ++ [(kind, ks)]).map datHd) := by
  subst ho
  rw [List.map_append]
  have one : DatIn ((D, ({ cls := .type "tuple", data := .seq [.int kind t, .bytes x t'].toArray n } : Obj)) :: rest) (.ref D) (.tuple [.int kind, .bytes (byteArr ks)]) := .tuple (.head _) (.cons (.int _ _) (.cons (datBytes hx) .nil))
  have two : DatAll ((D, ({ cls := .type "tuple", data := .seq [.int kind t, .bytes x t'].toArray n } : Obj)) :: rest) [.ref D] ([(kind, ks)].map datHd) := .cons one .nil
  exact (hda.mono fun _ h => .tail _ h).append two
theorem said_19 : True := by
  k_with "my:#k_all" => (with_reducible assumption)
  trivial
theorem mem_swap {α : Type} {a b : α} {r : List α} : ∀ p ∈ b :: a :: r, p ∈ a :: b :: r := fun p hp => by
  rcases List.mem_cons.mp hp with rfl | hp
  · exact .tail _ (.head _)
  · rcases List.mem_cons.mp hp with rfl | hp
    · exact .head _
    · exact .tail _ (.tail _ hp)
theorem sub_app {α : Type} {a news : List α} (h : ∀ p ∈ news, p ∈ a) : ∀ p ∈ a ++ news, p ∈ a := fun p hp => (List.mem_append.mp hp).elim id (h p)
theorem retAll {h₀ : Heap} {L : Addr} {m : Str → Option Value} {news led : List (Addr × Obj)} {s : Shared} {Q : Value → Shared → Prop} {R : Value → List (Addr × Obj) → Prop} {v : Value} {h' : Heap} {tk' : Nat}
    (hret : ∀ v tl h' tk', Fr h₀ L h' m → News h₀ L h' (tl ++ news) → R v tl → Q v { s with heap := h', toks := tk' }) (F : Fr h₀ L h' m) (N : News h₀ L h' led) (hs : ∀ p ∈ news, p ∈ led) (r : R v led) : Q v { s with heap := h', toks := tk' } :=
  hret v led h' tk' F (cb_drop N (sub_app hs)) r
/-- what read_heads hands back -/
inductive IsRead (ks : List Int) (R : Wk) (end_ : Int) (v : Value) (tl : List (Addr × Obj)) : Prop
  | mk (h1 : R.1 = tNone) (h2 : 40 ≤ end_ - R.2.2.2.length ∧ end_ - R.2.2.2.length ≤ end_ ∧ R.2.2.2 = cut ks (end_ - R.2.2.2.length) end_) (p l : Addr) (vs : List Value) (n : Nat) (t1 t2 : Tok) (rest : List (Addr × Obj)) (hv : v = .ref p)
    (ht : tl = (p, tupObj [.ref l, .int R.2.2.1 t1, .int (end_ - R.2.2.2.length) t2]) :: (l, listOf vs.toArray n) :: rest) (hd : DatAll rest vs (R.2.1.map datHd)) : IsRead ks R end_ v tl
theorem later_yes {kind a b : Int} (h : kind = 44) (ha : 0 ≤ a) (hb : 0 ≤ b) : ((256 * a + b) / 8 * 8 != 0) = decide (kind = 44 ∧ 256 * a + b > 7) := by
  by_cases g : (256 * a + b) / 8 * 8 = 0
  · rw [g, decide_eq_false fun x => last_no ha hb g x.2]; rfl
  · rw [decide_eq_true ⟨h, last_yes ha hb g⟩, bne_iff_ne]; exact g
theorem later_no {kind : Int} {P : Prop} [Decidable P] (h : kind ≠ 44) : (kind == 44) = decide (kind = 44 ∧ P) := by
  rw [decide_eq_false fun x => h x.1]; exact beq_false_of_ne h
theorem said_20 : True := by
  k_with "my:execs cons" => (k_here; (fail_if_success plain_pass); (with_reducible show wpAny _ _ (execs (Stmt.Assign _ (PySem.Expr.BoolOp _ _ _) _ :: _) _) _ _ (Shared.mk _ _ _ _ _)); (with_reducible rename JoinHere 4 => hJ9); refine Stop.intro ?_)
  trivial
/-- what stays while the heads are read -/
inductive HeadsJ (ks : List Int) (b : Array UInt8) (t t2 : Tok) (end_ : Int) (R : Wk) (news : List (Addr × Obj)) (k : Nat) (m : Str → Option Value) (nx : List (Addr × Obj)) : Prop
  | mk (at_ kind : Int) (later : Bool) (hs : List Hd) (l : Addr) (vs : List Value) (n : Nat) (rest : List (Addr × Obj)) (hnx : nx = (l, listOf vs.toArray n) :: rest)
    (e1 : ∃ t, m (Str.ofString "at") = some (.int at_ t)) (e2 : ∃ t, m (Str.ofString "kind") = some (.int kind t)) (e3 : m (Str.ofString "is_later") = some (.bool later)) (e4 : m (Str.ofString "heads") = some (.ref l)) (e5 : m (Str.ofString "octets") = some (.bytes b t)) (e6 : m (Str.ofString "end") = some (.int end_ t2))
    (hsub : ∀ p ∈ news, p ∈ rest) (hne : ∀ p ∈ rest, p.1 ≠ l) (hda : DatAll rest vs (hs.map datHd)) (hat : 40 ≤ at_ ∧ at_ ≤ end_) (hk : k = (end_ - at_).toNat) (hhs : (8 * hs.length : Int) ≤ at_ - 40)
    (h0 : later = false → R = prep hs (walk kind (cut ks at_ end_) (decide (at_ = 40)))) (h1 : later = true → R = (tNone, hs, kind, cut ks at_ end_)) : HeadsJ ks b t t2 end_ R news k m nx
theorem read_heads_c (w : World) (news : List (Addr × Obj)) (b : Array UInt8) (ks : List Int) (kind₀ end_ : Int) (t t1 t2 : Tok) (hb : KBw.bInts b = ks) (hlen : ks.length < 70000) (he : 40 ≤ end_ ∧ end_ ≤ ks.length) (R : Wk) (hR : walk kind₀ (cut ks 40 end_) true = R) :
    CalledE w 119 16 130 [.bytes b t, .int kind₀ t1, .int end_ t2] news (fun _ => True) (IsRead ks R end_) (fun C why => C = 56 ∧ why = R.1 ∧ R.1 ≠ tNone) := by
  refine of_heldQ ?_
  simp (disch := (refine anchorQ ?_; k_dflt (
  have hk := bytes_in hb
  k_extra "my:my startE"
  rename_i hret hexc
  have hNFN : NoFoldN := trivial
  k_extra "my:my enter"
  k_steps
  refine Stop.out ?_
  rename Fr _ _ _ _ => F
  rename News _ _ _ _ => N
  rename ∀ p ∈ news, p.1 < _ => hlt
  refine exec_while F N (HeadsJ ks b t t2 end_ R news)
    (end_ - 40).toNat ⟨40, kind₀, false, [], _, [], 0, news, rfl, val_int rfl rfl, val_int rfl rfl, rfl, rfl, rfl, rfl, fun _ h => h, all_ne hlt, .nil, by omega, rfl, by simp, fun _ => by rw [prep_nil, ← hR]; rfl, fun h => by cases h⟩ ?_ (by with_unfolding_all passes_own)
  intro k m₁ news₁ h tk hpt5 F N
  (try k_extra "my:my fold")
  obtain ⟨at_, kind, later, hs, l, vs, n, rest, rfl, ⟨ta, e1⟩, ⟨tki, e2⟩, e3, e4, e5, e6, hsub, hne, hda, hat, rfl, hhs, hR0, hR1⟩ := hpt5
  have F := knows6 F e1 e2 e3 e4 e5 e6
  have hvl : vs.length = hs.length := by have := hda.length; rw [List.length_map] at this; exact this
  have h0 : 0 ≤ at_ := Int.le_trans (by decide) hat.1
  have hpos := size_or kind hat he.2 hk
  have hb1 := getD_in hk (at_ + 2).toNat
  have hb2 := getD_in hk (at_ + 3).toNat
  have hvb : vs.length < 70000 := by omega
  have hfin : R = (tNone, hs, kind, cut ks at_ end_) → R.1 = tNone ∧ R.2.1 = hs ∧ R.2.2.1 = kind ∧ end_ - (R.2.2.2.length : Int) = at_ ∧ R.2.2.2 = cut ks at_ end_ := by
    rintro rfl
    have hl := cut_length (ks := ks) (at_ := at_) (e := end_) (by omega) hat.2 (by omega)
    exact ⟨rfl, rfl, rfl, by show end_ - ((cut ks at_ end_).length : Int) = at_; omega, rfl⟩
  cases later with
  | true =>
    obtain ⟨f1, f2, f3, f4, f5⟩ := hfin (hR1 rfl)
    k_steps
    exact retAll hret (by k_asm) (by k_asm) (fun p hp => .tail _ (.tail _ (hsub p hp))) ⟨f1, ⟨by omega, by omega, by rw [f4]; exact f5⟩, _, l, vs, n, tki, ta, rest, rfl, by rw [f3, f4], by rw [f2]; exact hda⟩
  | false =>
    have hR0 := hR0 rfl
    have hj9 : JoinHere 1 := rfl
    have hj8 : JoinHere 4 := rfl
    k_steps
    · rename sizeAt ks at_ kind _ < 0 => hz
      have e := step_trunc hz h0 hat.2 he.2 hk hR0
      k_extra "my:my raised"
      exact exc_end hexc (by assumption) (by assumption) (fun p hp => .tail _ (hsub p hp)) (by assumption) ⟨rfl, e.symm, by rw [e]; exact tTrunc_ne⟩
    · rename sizeAt ks at_ kind _ = 0 => hz
      obtain ⟨f1, f2, f3, f4, f5⟩ := hfin (step_stop hz hk hR0)
      exact retAll hret (by k_asm) (by k_asm) (fun p hp => .tail _ (.tail _ (hsub p hp))) ⟨f1, ⟨by omega, by omega, by rw [f4]; exact f5⟩, _, l, vs, n, tki, ta, rest, rfl, by rw [f3, f4], by rw [f2]; exact hda⟩
    · rename ¬ sizeAt ks at_ kind _ < 0 => hz
      rename sizeAt ks at_ kind _ ≠ 0 => hz2
      obtain ⟨q1, q2, q3, q4, q5, q6⟩ := turn_ar hpos hz hz2 hat
      refine Stop.out ?_
      (try k_extra "my:my fold")
      refine joinT (¬ (kind = 0 ∧ 40 < at_)) (fun hnf tJ => ?_) ?_
      rotate_left
      · k_steps
        · rename kind = 0 => hk0
          rename 40 < at_ => h40
          have e := step_hop q1 h0 hat.2 he.2 hk hR0 ⟨hk0, decide_eq_false (Int.ne_of_gt h40)⟩
          k_extra "my:my raised"
          exact exc_end hexc (by assumption) (by assumption) (fun p hp => .tail _ (hsub p hp)) (by assumption) ⟨rfl, e.symm, by rw [e]; exact tHop_ne⟩
        · rename ¬ 40 < at_ => h40
          exact JoinEnd.intro ⟨fun h => h40 h.2, _, rfl⟩
        · rename kind ≠ 0 => hk0
          exact JoinEnd.intro ⟨fun h => hk0 h.1, _, rfl⟩
      have hN : ¬ (kind = 0 ∧ decide (at_ = 40) = false) := fun h => hnf ⟨h.1, lt40 hat.1 (of_decide_eq_false h.2)⟩
      k_steps
      refine Stop.out ?_
      (try k_extra "my:my fold")
      rename Fr _ _ _ _ => F5
      rename News _ _ _ _ => N5
      refine join_set F5 N5 (Str.ofString "is_later") (fun _ => .bool (decide (kind = 44 ∧ 256 * ks.getD (at_ + 2).toNat 0 + ks.getD (at_ + 3).toNat 0 > 7))) (fun h6 t6 k6 F6 N6 => ?_) ?_
      rotate_left
      · k_steps
        · rename kind = 44 => h44
          rename Fr _ _ _ _ => F7
          rename News _ _ _ _ => N7
          refine JoinEnd.intro ⟨_, 0, _, rfl, ?_, N7⟩
          rw [← later_yes h44 hb1.1 hb2.1]
          exact F7
        · rename kind ≠ 44 => h44
          rename Fr _ _ _ _ => F7
          rename News _ _ _ _ => N7
          refine JoinEnd.intro ⟨_, 0, _, rfl, ?_, N7⟩
          rw [← later_no h44]
          exact F7
      k_steps
      rename KBw.bInts _ = List.take _ _ => hK
      rename _ ∧ AllLt _ _ => l1
      rename Fr _ _ _ _ => F'
      rename News _ _ _ _ => N'
      rw [List.push_toArray] at N'
      have hK := cut_of hK (by omega) (by omega) (by omega)
      refine WhileEnd.intro F' N' (k' := (end_ - (at_ + sizeAt ks at_ kind end_)).toNat) mem_swap q3
        ⟨at_ + sizeAt ks at_ kind end_, _, _, hs ++ [(kind, cut ks (at_ + 1) (at_ + sizeAt ks at_ kind end_))], l, _, n + 1, _, rfl, val_int rfl rfl, val_int rfl rfl, rfl, rfl, rfl, rfl, fun p hp => .tail _ (hsub p hp), List.forall_mem_cons.mpr ⟨Nat.ne_of_gt l1.1, hne⟩, snocHd hda rfl hK, q2, rfl, by rw [List.length_append]; simp only [List.length_cons, List.length_nil]; omega,
          fun h => by rw [step_on q1 h0 hat.2 he.2 hk hR0 hN (of_decide_eq_false h), decide_eq_false q4], fun h => step_last q1 h0 hat.2 he.2 hk hR0 (of_decide_eq_true h)⟩ rfl))) only [↓heldQ_eq]
theorem said_21 : True := by
  k_with "my:call ref" => (k_here; (fail_if_success plain_pass); (with_reducible show wpAny _ _ (call (Value.ref 119) _) _ _ _); k_dflt ( refine' CalledE.use ?k1 ?k2 ?k3 ?k4 ?k5 ?k6 (read_heads_c _ _ _ _ _ _ _ _ _ ?kp ?kq ?kr _ rfl) trivial ?kd ?ku ?_ ?_; k_extra "my:my facts"; (case kp => first | assumption | kba_ints); (case kq => omega); (case kr => constructor <;> omega)))
  trivial

theorem part_17 : True := by
  w_top off
  trivial
structure Pk where
  (src tgt prot hop dscp ecn flow : Int)
  heads : List Hd
  data : List Int
/-- a packet, of new objects or what was handed in -/
inductive PkIn (news : List (Addr × Obj)) (v : Value) (P : Pk) : Prop
  | mk (e dx l : Addr) (vs : List Value) (n : Nat) (h0 h1 h2 h3 h4 h5 h6 h7 h8 : Int) (k0 k1 k2 k3 k4 k5 k6 k7 k8 u0 u1 u2 u3 u5 u6 u7 u8 : Tok) (hv : v = .ref e) (m1 : (e, instObj 87 dx) ∈ news)
    (m2 : (dx, dictOf (ipEs h0 h1 h2 h3 h4 h5 h6 h7 h8 k0 k1 k2 k3 k4 k5 k6 k7 k8 (.int P.src u0) (.int P.tgt u1) (.int P.prot u2) (.bytes (byteArr P.data) u3) (.ref l) (.int P.hop u5) (.int P.dscp u6) (.int P.ecn u7) (.int P.flow u8)) 9) ∈ news)
    (m3 : (l, listOf vs.toArray n) ∈ news) (hda : DatAll news vs (P.heads.map datHd)) : PkIn news v P
noncomputable def tHead : Str := Str.ofString "truncated head"
noncomputable def tVer : Str := Str.ofString "bad version"
noncomputable def tLen : Str := Str.ofString "bad payload length"
noncomputable def readOf (ks : List Int) : Except Str Pk :=
  if ks.length < 40 then .error tHead
  else if whole (cut ks 0 4) / 2 ^ 28 ≠ 6 then .error tVer
  else if 40 + whole (cut ks 4 6) > ks.length then .error tLen
  else
    let R := walk (ks.getD 6 0) (cut ks 40 (40 + whole (cut ks 4 6))) true
    if R.1 ≠ tNone then .error R.1
    else .ok { src := whole (cut ks 8 24), tgt := whole (cut ks 24 40), prot := R.2.2.1, hop := ks.getD 7 0, dscp := whole (cut ks 0 4) / 2 ^ 22 % 64, ecn := whole (cut ks 0 4) / 2 ^ 20 % 4, flow := whole (cut ks 0 4) % 2 ^ 20, heads := R.2.1, data := R.2.2.2 }

theorem cut_in {ks : List Int} (hk : ∀ k ∈ ks, 0 ≤ k ∧ k < 256) (a e : Int) : ∀ k ∈ cut ks a e, 0 ≤ k ∧ k < 256 := fun k h => hk k (List.mem_of_mem_take (List.mem_of_mem_drop h))
theorem whole_cut {ks : List Int} (hk : ∀ k ∈ ks, 0 ≤ k ∧ k < 256) {a e : Int} (n : Nat) (h0 : 0 ≤ a) (h1 : a ≤ e) (h2 : e ≤ ks.length) (hn : e - a = n) : 0 ≤ whole (cut ks a e) ∧ whole (cut ks a e) < 256 ^ n ∧ (cut ks a e).length = n := by
  have hl := cut_length (ks := ks) h0 h1 h2
  have hl : (cut ks a e).length = n := by omega
  have := whole_bound _ (cut_in hk a e)
  rw [hl] at this
  exact ⟨this.1, this.2, hl⟩
theorem and_flow (x : Int) (h : 0 ≤ x ∧ x < 256 ^ 4) : Builtin.bitAnd x 1048575 = x % 2 ^ 20 := by
  obtain ⟨n, rfl⟩ := Int.eq_ofNat_of_zero_le h.1
  rw [bitAnd_pp h.1 (by decide)]
  show (((n &&& (2 ^ 20 - 1) : Nat)) : Int) = _
  rw [Nat.and_two_pow_sub_one_eq_mod]
  exact Int.natCast_emod n (2 ^ 20)
theorem read_ipv6_c (w : World) (news : List (Addr × Obj)) (b : Array UInt8) (ks : List Int) (t : Tok) (hb : KBw.bInts b = ks) (hlen : ks.length < 70000) :
    CalledE w 126 24 260 [.bytes b t] news (fun _ => True) (fun v tl => ∃ P, readOf ks = .ok P ∧ PkIn (tl ++ news) v P) (fun C why => C = 56 ∧ readOf ks = .error why) := by
  refine of_heldQ ?_
  simp (disch := (refine anchorQ ?_; k_dflt (
  have hk := bytes_in hb
  k_extra "my:my startE"
  rename_i hret hexc
  k_extra "my:my enter"
  k_steps
  · rename (ks.length : Int) < 40 => h40
    k_extra "my:my raised"
    exact exc_end hexc (by assumption) (by assumption) (by k_extra "my:my sub") (by assumption) ⟨rfl, by unfold readOf; rw [if_pos (by omega)]; rfl⟩
  rename ¬ (ks.length : Int) < 40 => h40
  rename KBw.bInts _ = List.take _ _ => hK
  replace hK := cut_of hK (by omega) (by omega) (by omega)
  obtain ⟨a1, a2, a3⟩ := whole_cut hk 4 (a := 0) (e := 4) (by omega) (by omega) (by omega) (by omega)
  k_steps
  · rename Int.fdiv _ _ ≠ _ => hv
    rw [fd (by decide)] at hv
    k_extra "my:my raised"
    exact exc_end hexc (by assumption) (by assumption) (by k_extra "my:my sub") (by assumption) ⟨rfl, by unfold readOf; rw [if_neg (by omega), if_pos (by exact hv)]; rfl⟩
  rename Int.fdiv _ _ = _ => hv
  rw [fd (by decide)] at hv
  rename KBw.bInts _ = List.take _ _ => hK2
  replace hK2 := cut_of hK2 (by omega) (by omega) (by omega)
  obtain ⟨b1, b2, b3⟩ := whole_cut hk 2 (a := 4) (e := 6) (by omega) (by omega) (by omega) (by omega)
  k_steps
  · rename (ks.length : Int) < 40 + _ => hl
    k_extra "my:my raised"
    exact exc_end hexc (by assumption) (by assumption) (by k_extra "my:my sub") (by assumption) ⟨rfl, by unfold readOf; rw [if_neg (by omega), if_neg (by intro h; exact h hv), if_pos (by omega)]; rfl⟩
  · rename IsRead _ _ _ _ _ => hr
    generalize hR : walk (ks.getD (Int.toNat 6) 0) (cut ks 40 (40 + whole (cut ks 4 6))) true = R at hr
    obtain ⟨f1, ⟨f2, f3, f4⟩, p', l', vs', n', tt1, tt2, rest', rfl, rfl, hda⟩ := hr
    rename News _ _ _ (_ ++ _) => N8
    (try dsimp +zetaDelta only at N8)
    simp only [List.cons_append] at N8
    have hat : (40 + whole (cut ks 4 6) - (R.2.2.2.length : Int)) ≤ ks.length := by omega
    k_steps
    rename KBw.bInts _ = List.take _ _ => hK3
    replace hK3 := cut_of hK3 (by omega) (by omega) (by omega)
    obtain ⟨c1, c2, c3⟩ := whole_cut hk 16 (a := 8) (e := 24) (by omega) (by omega) (by omega) (by omega)
    k_steps
    rename KBw.bInts _ = List.take _ _ => hK4
    replace hK4 := cut_of hK4 (by omega) (by omega) (by omega)
    obtain ⟨d1, d2, d3⟩ := whole_cut hk 16 (a := 24) (e := 40) (by omega) (by omega) (by omega) (by omega)
    k_steps
    rename KBw.bInts _ = List.take _ _ => hK5
    replace hK5 := cut_of hK5 (by omega) (by omega) (by omega)
    rw [← f4] at hK5
    rename News _ _ _ _ => kN
    (try dsimp +zetaDelta only at kN)
    rw [bytes_eq hK5] at kN
    refine retAll hret (by k_asm) kN (fun p hp => .tail _ (.tail _ (.tail _ (.tail _ (.tail _ (List.mem_append_right _ hp)))))) ⟨{ src := whole (cut ks 8 24), tgt := whole (cut ks 24 40), prot := R.2.2.1, hop := ks.getD (Int.toNat 7) 0, dscp := Builtin.bitAnd ((whole (cut ks 0 4)).fdiv (2 ^ Int.toNat 22)) 63, ecn := Builtin.bitAnd ((whole (cut ks 0 4)).fdiv (2 ^ Int.toNat 20)) 3, flow := Builtin.bitAnd (whole (cut ks 0 4)) 1048575, heads := R.2.1, data := R.2.2.2 }, ?_,
      _, _, l', vs', n', _, _, _, _, _, _, _, _, _, _, _, _, _, _, _, _, _, _, _, _, _, _, _, _, _, _, rfl, .tail _ (.head _), .tail _ (.tail _ (.head _)), .tail _ (.tail _ (.tail _ (.tail _ (.head _)))), hda.mono fun p hp => ?_⟩
    · unfold readOf
      rw [if_neg (by omega), if_neg (by intro h; exact h hv), if_neg (by omega)]
      have e1 : walk (ks.getD 6 0) (cut ks 40 (40 + whole (cut ks 4 6))) true = R := hR
      simp only [e1, if_neg (show ¬ R.1 ≠ tNone from fun h => h f1), bitAnd_m6, bitAnd_m2]
      rw [fd (by decide), fd (by decide), and_flow _ ⟨a1, a2⟩]
      rfl
    · exact List.mem_append_left _ (.tail _ (.tail _ (.tail _ (.tail _ (.tail _ (List.mem_append_left _ hp))))))
  · refine on_leave (by assumption) (by assumption) (by assumption) (by assumption) fun h8 R8 s8 => ?_
    rename _ = 56 ∧ _ => hx
    obtain ⟨rfl, rfl, hx⟩ := hx
    exact exc_end hexc (by assumption) (by assumption) (by k_extra "my:my sub") (by assumption) ⟨rfl, by unfold readOf; rw [if_neg (by omega), if_neg (by intro h; exact h hv), if_neg (by omega)]; exact if_pos hx⟩))) only [↓heldQ_eq]

theorem part_18 : True := by
  w_top off
  trivial
theorem said_22 : True := by
  k_with "my:exec For Tuple Call" => (k_here; refine exec_for ?_ (fun _ => rfl))
  trivial
section
variable {prog : Program} {w : World} {A : Around} {E : Value → Shared → Prop} {s : Shared} {env : Env} {h₀ : Heap} {elts : List Expr} {ek : Nat} {ep : Pos} {body : List Stmt} {Q : Flow → Shared → Prop}
/-- a for over enumerate of a list -/
theorem for_enum {l : Addr} {vs : List Value} {n : Nat} {m : Str → Option Value} {news : List (Addr × Obj)} (hh : A.handled = none)
    (F : Fr h₀ env.locals s.heap m) (N : News h₀ env.locals s.heap news) (hl : (l, PySem.W.listOf vs.toArray n) ∈ news)
    (J : Nat → (Str → Option Value) → List (Addr × Obj) → Prop) (h0 : J 0 m news) (hJ : ∀ i m₁ news₁, J i m₁ news₁ → (l, PySem.W.listOf vs.toArray n) ∈ news₁)
    (turn : ∀ i v t m₁ news₁ h tk e it T oE oI, vs[i]? = some v → (∀ p ∈ news, p.1 < it) → it < e → J i m₁ news₁ → (∀ p ∈ news₁, p.1 ≠ e ∧ p.1 ≠ it) → T ≠ e ∧ T ≠ it → Fr h₀ env.locals h m₁ → News h₀ env.locals h ((e, oE) :: (it, oI) :: (T, tupObj [.int (i : Int) t, v]) :: news₁) →
      wpAny (model prog w) A (assign (.Tuple elts ek ep) env (.ref T)) (fun _ s₃ => wpAny (model prog w) A (execs body env) (TurnAt h₀ env.locals e oE (fun m nx => ∃ nx', nx = (it, oI) :: nx' ∧ (∀ p ∈ nx', p.1 ≠ it) ∧ J (i + 1) m nx') s Q) E s₃) E { s with heap := h, toks := tk })
    (done : ∀ m₁ news₁ h tk, J vs.length m₁ news₁ → Fr h₀ env.locals h m₁ → News h₀ env.locals h news₁ → Q .next { s with heap := h, toks := tk })
    (hE : PassesOwn (model prog w) A env E) : wpAny (model prog w) A (call (.type "enumerate") [.ref l]) (ForAt prog w A env (.Tuple elts ek ep) body Q E) E s := by
  have hls : s.heap.IsList l vs.toArray := ⟨_, (N _ hl).1, rfl, n, rfl⟩
  have hlt : ∀ p ∈ news, p.1 < s.heap.objs.size := fun p hp => Heap.lt_size (N p hp).1
  have hsz : vs.toArray.size = vs.length := List.size_toArray ..
  refine call_enumerate_list hls fun h' hEn hIt hs hk => ?_
  unfold ForAt
  refine wpAny_pyIter_enum hEn ?_
  have fr0 : ∀ b o, h₀.get? b = some o → b < s.heap.objs.size := fun b o e => Heap.lt_size (F.keep b o e)
  have nI : h₀.get? s.heap.objs.size = none := by
    cases q : h₀.get? s.heap.objs.size with
    | none => rfl
    | some o => exact absurd (fr0 _ _ q) (Nat.lt_irrefl _)
  have nE : h₀.get? (s.heap.objs.size + 1) = none := by
    cases q : h₀.get? (s.heap.objs.size + 1) with
    | none => rfl
    | some o => exact absurd (fr0 _ _ q) (Nat.not_lt.mpr (Nat.le_succ _))
  have lI : s.heap.objs.size ≠ env.locals := Nat.ne_of_gt F.ns.lt
  have lE : s.heap.objs.size + 1 ≠ env.locals := Nat.ne_of_gt (Nat.lt_succ_of_lt F.ns.lt)
  have hei : s.heap.objs.size + 1 ≠ s.heap.objs.size := Nat.succ_ne_self _
  generalize he : s.heap.objs.size + 1 = e at *
  generalize hit : s.heap.objs.size = it at *
  have hie : it < e := by rw [← he]; exact Nat.lt_succ_self _
  refine codeAny_forLoop_any
    (fun k s' => ∃ h' tk m' news' i old, s' = { s with heap := h', toks := tk } ∧ (IsEnum h' e it ((i : Nat) : Int) old ∧ h'.IsListIter it l i) ∧ Fr h₀ env.locals h' m' ∧ News h₀ env.locals h' news' ∧ (∀ p ∈ news', p.1 ≠ e ∧ p.1 ≠ it) ∧ J i m' news' ∧ i ≤ vs.length ∧ k = vs.length + 1 - i) ?_ (vs.length + 1)
    ⟨h', s.toks, m, news, 0, .none, rfl, ⟨hEn, hIt⟩, F.keeps hk, N.grown hk, fun p hp => ⟨Nat.ne_of_lt (Nat.lt_trans (hlt p hp) hie), Nat.ne_of_lt (hlt p hp)⟩, h0, Nat.zero_le _, rfl⟩
  intro k s' hpt2
  (try k_extra "my:my fold")
  obtain ⟨H, tk, m', news', i, old, rfl, ⟨hEn', hIt'⟩, F', N', ha, hj, hi, rfl⟩ := hpt2
  have hls' : H.IsList l vs.toArray := ⟨_, (N' _ (hJ _ _ _ hj)).1, rfl, n, rfl⟩
  have hle := ha _ (hJ _ _ _ hj)
  have next : ∀ h₁ : Heap, (∀ b o, b ≠ e → b ≠ it → H.get? b = some o → h₁.get? b = some o) → Fr h₀ env.locals h₁ m' ∧ News h₀ env.locals h₁ news' := fun h₁ hk =>
    ⟨⟨F'.ns.at' fun o q => hk _ o (fun z => lE z.symm) (fun z => lI z.symm) q, fun b o q => hk b o (fun z => by rw [z, nE] at q; cases q) (fun z => by rw [z, nI] at q; cases q) (F'.keep b o q), F'.above⟩,
      fun p hp => ⟨hk _ _ (ha p hp).1 (ha p hp).2 (N' p hp).1, (N' p hp).2⟩⟩
  cases hv : vs[i]? with
  | none =>
    have hin : i = vs.length := Nat.le_antisymm hi (by simpa using hv)
    subst hin
    refine wpAny_pyNext_enum_end hh hEn' hIt' hls' (by simpa using hv) fun h₁ hx => wpAny_execs_nil ?_
    obtain ⟨F₁, N₁⟩ := next h₁ fun b o _ hb2 q => hx b o hb2 q
    exact done m' news' h₁ tk hj F₁ N₁
  | some v =>
    have hlt' : i < vs.length := (List.getElem?_eq_some_iff.mp hv).1
    have heH : e < H.objs.size := Heap.lt_size hEn'
    have hiH : it < H.objs.size := by obtain ⟨oi, hoi, _⟩ := id hIt'; exact Heap.lt_size hoi
    have hLH : env.locals < H.objs.size := F'.ns.lt
    refine wpAny_pyNext_enum_item hEn' hIt' hls' (x := v) (by simpa using hv) hei fun h₁ heo hit₁ ht₁ hz₁ hk₁ => ?_
    refine wpAny_letOwnedTupleGo_enum heo fun h₂ he₂ hs₂ => ?_
    replace hs₂ : Heap.SameBut e h₁ h₂ := hs₂
    have hTe : H.objs.size ≠ e := Nat.ne_of_gt heH
    have hTi : H.objs.size ≠ it := Nat.ne_of_gt hiH
    have ht₂ : h₂.get? H.objs.size = some (tupObj [.int (i : Int) tk, v]) := (hs₂.2 _ hTe).trans ht₁
    obtain ⟨F₂, N₂⟩ := next h₂ fun b o hb1 hb2 q => (hs₂.2 b hb1).trans (hk₁ b o hb1 hb2 q)
    obtain ⟨oi, hoi, hoi2⟩ := hit₁.at fun o x => (hs₂.2 it (Ne.symm hei)).trans x
    have nT : h₀.get? H.objs.size = none := by
      cases q : h₀.get? H.objs.size with
      | none => rfl
      | some o => exact absurd (Heap.lt_size (F'.keep _ _ q)) (Nat.lt_irrefl _)
    have N₃ : News h₀ env.locals h₂ ((e, _) :: (it, oi) :: (H.objs.size, tupObj [.int (i : Int) tk, v]) :: news') := fun p hp => by
      rcases List.mem_cons.mp hp with rfl | hp
      · exact ⟨he₂, lE, nE⟩
      · rcases List.mem_cons.mp hp with rfl | hp
        · exact ⟨hoi, lI, nI⟩
        · rcases List.mem_cons.mp hp with rfl | hp
          · exact ⟨ht₂, Nat.ne_of_gt hLH, nT⟩
          · exact N₂ p hp
    refine wpAny_mono (turn i v tk m' news' h₂ _ e it H.objs.size _ oi hv hlt hie hj ha ⟨hTe, hTi⟩ F₂ N₃) (fun _ s₂ h₂' => wpAny_mono h₂' (fun f s₃ h₃ => ?_) hE) hE
    have fin : (∃ h' tk m' news', s₃ = { s with heap := h', toks := tk } ∧ Fr h₀ env.locals h' m' ∧ News h₀ env.locals h' ((e, { cls := .type "enumerate", dict := none, data := .fields #[.none, .bool false, .ref it, rawInt ((i : Int) + 1), .none, v], slots := #[] }) :: news') ∧ (∀ p ∈ news', p.1 ≠ e) ∧ ∃ nx', news' = (it, oi) :: nx' ∧ (∀ p ∈ nx', p.1 ≠ it) ∧ J (i + 1) m' nx') →
        ∃ m, m < vs.length + 1 - i ∧ ∃ h' tk m' news' j old, s₃ = { s with heap := h', toks := tk } ∧ (IsEnum h' e it ((j : Nat) : Int) old ∧ h'.IsListIter it l j) ∧ Fr h₀ env.locals h' m' ∧ News h₀ env.locals h' news' ∧ (∀ p ∈ news', p.1 ≠ e ∧ p.1 ≠ it) ∧ J j m' news' ∧ j ≤ vs.length ∧ m = vs.length + 1 - j := by
      intro hpt0
      (try k_extra "my:my fold")
      obtain ⟨g₃, tk₃, m₃, _, rfl, F₃, N₃', ha₃, nx', rfl, hb₃, hj₃⟩ := hpt0
      refine ⟨vs.length + 1 - (i + 1), by omega, g₃, tk₃, m₃, nx', i + 1, v, rfl, ⟨?_, ?_⟩, F₃, fun p hp => N₃' p (.tail _ (.tail _ hp)), fun p hp => ⟨ha₃ p (.tail _ hp), hb₃ p hp⟩, hj₃, hlt', rfl⟩
      · have := (N₃' _ (.head _)).1
        exact this
      · exact ⟨oi, (N₃' _ (.tail _ (.head _))).1, hoi2⟩
    cases f with
    | ret v => exact h₃
    | brk => exact h₃
    | next => exact fin h₃
    | cont => exact fin h₃
end
/-! ## writing -/
noncomputable def tHd : Str := Str.ofString "no such extension head"
noncomputable def tFld : Str := Str.ofString "no such field of an IPv6 head"
noncomputable def tLong : Str := Str.ofString "packet too long"
section
open KBy
variable {prog : Program} {w : World} {A : Around} {E : Value → Shared → Prop} {s : Shared} {b c : Array UInt8} {t u : Tok} {Q : Value → Shared → Prop} {ks ls : List Int}
theorem noI_bytes : typeLookup (.type "bytes") (dunderI "add") = pure none := by rw [typeLookup_type, builtinLookup_eq_fast]; kernel_rfl
theorem iadd_bytes (hsz : b.size + c.size ≤ 16777216) (h : ∀ t' k, Q (.bytes (b ++ c) t') { s with toks := k }) : wpAny (model prog w) A (inplaceOp .Add (.bytes b t) (.bytes c u)) Q E s := by
  refine iconcat_gives (typeIs_bytes s b t) (typeIs_bytes s c u) noI_bytes noFill_bytes_add seq_bytes_add FB.slot_bytes_add FB.entry_bytes_add (FB.args_bytes_add_2 _ _) (gives_bytes_add (tooLong_not hsz)) ?_
  by_cases hb : b.isEmpty = true
  · rw [if_pos hb]
    have e : b = #[] := Array.isEmpty_iff.1 hb
    have h' := h u s.toks
    rw [e, Array.empty_append] at h'
    exact h'
  · rw [if_neg hb]
    by_cases hc : c.isEmpty = true
    · rw [if_pos hc]
      have e : c = #[] := Array.isEmpty_iff.1 hc
      have h' := h t s.toks
      rw [e, Array.append_empty] at h'
      exact h'
    · rw [if_neg hc]
      exact ⟨by rw [Array.size_append, sizeLine_eq]; exact hsz, h s.toks (s.toks + 1)⟩
theorem iadd_K (hb : KBw.bInts b = ks) (hc : KBw.bInts c = ls) (hsz : ks.length + ls.length ≤ 16777216) (h : ∀ t' k, KBw.bInts (b ++ c) = ks ++ ls → Q (.bytes (b ++ c) t') { s with toks := k }) : wpAny (model prog w) A (inplaceOp .Add (.bytes b t) (.bytes c u)) Q E s :=
  iadd_bytes (by rw [← KBw.ints_length b, ← KBw.ints_length c, hb, hc]; exact hsz) fun t' k => h t' k (KBw.ints_app hb hc)
end
theorem said_23 : True := by
  k_with "my:inplaceOp Add bytes bytes" => (k_here; (with_reducible show wpAny _ _ (inplaceOp Operator.Add (Value.bytes _ _) (Value.bytes _ _)) _ _ _); (refine iadd_K (by kba_ints) (by kba_ints2) (by kba_size) ?_); intro _ _ kbaApp)
  trivial
/-- a head fits its kind -/
abbrev hdOk (h : Hd) : Prop := h.2.length ≠ 0 ∧ hsize h.1 (h.2.getD 0 0) = h.2.length + 1
noncomputable def cat (pre : List Int) : Except Str (List Int) → Except Str (List Int)
  | .error e => .error e
  | .ok o => .ok (pre ++ o)
theorem cat_cat (a b : List Int) (x : Except Str (List Int)) : cat a (cat b x) = cat (a ++ b) x := by cases x <;> simp [cat]
/-- the kind of the next head, or the protocol -/
noncomputable def nxt (prot : Int) : List Hd → Int
  | [] => prot
  | h :: _ => h.1
/-- the octets of the heads, each telling the next one's kind -/
noncomputable def headsOf (prot : Int) : List Hd → Except Str (List Int)
  | [] => .ok []
  | h :: r =>
    if ¬ hdOk h then .error tHd
    else if ¬ (0 ≤ nxt prot r ∧ nxt prot r < 256) then .error tFits
    else cat (nxt prot r :: h.2) (headsOf prot r)

theorem put {h₀ h : Heap} {L : Addr} {led : List (Addr × Obj)} {p : Addr × Obj} (N : News h₀ L h led) (hp : p ∈ led) : News h₀ L h (p :: led) := fun q hq => (List.mem_cons.mp hq).elim (fun e => e ▸ N p hp) (N q)
theorem drop_at {α : Type} {l : List α} {i : Nat} {x : α} (h : l[i]? = some x) : l.drop i = x :: l.drop (i + 1) := by
  obtain ⟨hi, rfl⟩ := List.getElem?_eq_some_iff.mp h
  exact List.drop_eq_getElem_cons hi
noncomputable def hdsLen (hs : List Hd) : Nat := (hs.map fun h => h.2.length + 1).sum
theorem len_hds : ∀ hs : List Hd, hs.length ≤ hdsLen hs
  | [] => Nat.zero_le _
  | h :: r => by have := len_hds r; simp only [hdsLen, List.map_cons, List.sum_cons, List.length_cons] at *; omega
theorem datHd_inv {news : List (Addr × Obj)} {v : Value} {h : Hd} (d : DatIn news v (datHd h)) : ∃ a n t t', v = .ref a ∧ (a, ({ cls := .type "tuple", data := .seq [.int h.1 t, .bytes (byteArr h.2) t'].toArray n } : Obj)) ∈ news := by
  unfold datHd at d
  cases d with
  | tuple hm hd =>
    cases hd with
    | cons d1 d2 =>
      cases d2 with
      | cons d2 d3 =>
        cases d3
        cases d1
        cases d2
        exact ⟨_, _, _, _, rfl, hm⟩
theorem heads_at {news : List (Addr × Obj)} {vs : List Value} {hs : List Hd} (hda : DatAll news vs (hs.map datHd)) {i : Nat} {v : Value} (hv : vs[i]? = some v) :
    ∃ h a n t t', hs[i]? = some h ∧ v = .ref a ∧ (a, ({ cls := .type "tuple", data := .seq [.int h.1 t, .bytes (byteArr h.2) t'].toArray n } : Obj)) ∈ news := by
  have hl := hda.length
  rw [List.length_map] at hl
  have hi : i < hs.length := by rw [← hl]; exact (List.getElem?_eq_some_iff.mp hv).1
  obtain ⟨v', hv', hd⟩ := hda.get (k := i) (by rw [List.length_map]; exact hi)
  rw [hv] at hv'
  cases hv'
  rw [List.getElem_map] at hd
  obtain ⟨a, n, t, t', rfl, hm⟩ := datHd_inv hd
  exact ⟨hs[i], a, n, t, t', List.getElem?_eq_getElem hi, rfl, hm⟩

theorem octs_one {x : Int} (h : 0 ≤ x ∧ x < 256 ^ 1) : octs x 1 = [x] := by
  have e : octs x 1 = [x / 256 ^ 0 % 256] := rfl
  rw [e]
  have : x < 256 := h.2
  rw [Int.pow_zero, Int.ediv_one, Int.emod_eq_of_lt h.1 this]
theorem said_24 : True := by
  k_with "my:execs cons" => (k_here; (fail_if_success plain_pass); (with_reducible show wpAny _ _ (execs (Stmt.If (PySem.Expr.Compare (PySem.Expr.BinOp _ _ _ _) _ _ _) _ [] _ :: _) _) _ _ (Shared.mk _ _ _ _ _)); (with_reducible rename JoinHere 3 => hJ9); refine Stop.intro ?_)
  trivial
/-- what stays while the heads are written -/
inductive OutJ (e : Addr) (P : Pk) (news : List (Addr × Obj)) (i : Nat) (m : Str → Option Value) (nx : List (Addr × Obj)) : Prop
  | mk (hnx : nx = news) (e1 : m (Str.ofString "ip") = some (.ref e)) (ob : Array UInt8) (pre : List Int) (t : Tok) (e2 : m (Str.ofString "out") = some (.bytes ob t)) (hp : KBw.bInts ob = pre)
    (hH : headsOf P.prot P.heads = cat pre (headsOf P.prot (P.heads.drop i))) (hL : pre.length + hdsLen (P.heads.drop i) = hdsLen P.heads) : OutJ e P news i m nx
theorem write_heads_c (w : World) (news : List (Addr × Obj)) (v : Value) (P : Pk) (hp : PkIn news v P) (hb : ∀ h ∈ P.heads, ∀ k ∈ h.2, 0 ≤ k ∧ k < 256) (hl : hdsLen P.heads ≤ 70000) :
    CalledE w 133 24 200 [v] news (fun _ => True) (fun v tl => ∃ o t, headsOf P.prot P.heads = .ok o ∧ v = .bytes (byteArr o) t ∧ tl = []) (fun C why => C = 44 ∧ headsOf P.prot P.heads = .error why) := by
  refine of_heldQ ?_
  simp (disch := (refine anchorQ ?_; k_dflt (
  obtain ⟨e, dx, l, vs, n, _, _, _, _, _, _, _, _, _, _, _, _, _, _, _, _, _, _, _, _, _, _, _, _, _, _, rfl, m1, m2, m3, hda⟩ := hp
  have hvl := hda.length
  rw [List.length_map] at hvl
  k_extra "my:my startE"
  rename_i hret hexc
  k_extra "my:my enter"
  k_steps
  rename Fr _ _ _ _ => F
  rename News _ _ _ _ => N
  refine for_enum rfl F N m3 (OutJ e P news)
    ⟨rfl, rfl, _, [], _, rfl, rfl, ?_, by simp⟩ (by rintro i m₁ news₁ ⟨rfl, _⟩; exact m3) ?_ ?_ (by with_unfolding_all passes_own)
  · rw [List.drop_zero]; cases headsOf P.prot P.heads <;> rfl
  · intro i v t m₁ news₁ h tk e' it T oE oI hv hlt hie hpt15 ha hT F N
    (try k_extra "my:my fold")
    obtain ⟨rfl, e1, ob, pre, t1, e2, hpre, hH, hL⟩ := hpt15
    have F := knows2 F e1 e2
    obtain ⟨hd', a', n', ti, tb, hhi, rfl, ma⟩ := heads_at hda hv
    have hmem := List.mem_of_getElem? hhi
    have hB := KBa.ints_make (hb _ hmem)
    have m0 : ∀ p ∈ news₁, p ∈ (e', oE) :: (it, oI) :: (T, tupObj [.int (i : Int) t, .ref a']) :: news₁ := fun p hp => .tail _ (.tail _ (.tail _ hp))
    have N := put (put (put (put N (m0 _ m2)) (.tail _ (m0 _ m1))) (.tail _ (.tail _ (m0 _ m3)))) (.tail _ (.tail _ (.tail _ (m0 _ ma))))
    have hdrop := drop_at hhi
    have hln : hdsLen (P.heads.drop i) = hd'.2.length + 1 + hdsLen (P.heads.drop (i + 1)) := by rw [hdrop]; simp [hdsLen]
    have hln2 : hd'.2.length < 70000 := by omega
    have hgood : hdOk hd' → (0 ≤ nxt P.prot (P.heads.drop (i + 1)) ∧ nxt P.prot (P.heads.drop (i + 1)) < 256) → headsOf P.prot P.heads = cat (pre ++ (nxt P.prot (P.heads.drop (i + 1)) :: hd'.2)) (headsOf P.prot (P.heads.drop (i + 1))) := fun a b => by
      rw [hH, hdrop, headsOf, if_neg (fun h => h a), if_neg (fun h => h b), cat_cat]
    have hfit : hdOk hd' → ¬ (0 ≤ nxt P.prot (P.heads.drop (i + 1)) ∧ nxt P.prot (P.heads.drop (i + 1)) < 256) → headsOf P.prot P.heads = .error tFits := fun a b => by
      rw [hH, hdrop, headsOf, if_neg (fun h => h a), if_pos b]; rfl
    have hlen' : ∀ x : Int, (pre ++ (x :: hd'.2)).length + hdsLen (P.heads.drop (i + 1)) = hdsLen P.heads := fun x => by rw [List.length_append, List.length_cons]; omega
    have hap : ∀ p ∈ (it, oI) :: news₁, p.1 ≠ e' := List.forall_mem_cons.mpr ⟨Nat.ne_of_lt hie, fun p hp => (ha p hp).1⟩
    have hin : ∀ p ∈ (it, oI) :: news₁, p ∈ (it, oI) :: (T, tupObj [.int (i : Int) t, .ref a']) :: news₁ := fun p hp => (List.mem_cons.mp hp).elim (fun h => h ▸ .head _) fun h => .tail _ (.tail _ h)
    have hvsz : vs.toArray.size = P.heads.length := by rw [List.size_toArray, hvl]
    have hl62 : P.heads.length < 2 ^ 62 := Nat.lt_of_le_of_lt (Nat.le_trans (len_hds _) hl) (by decide)
    have hvb : vs.length < 70001 := by rw [hvl]; exact Nat.lt_succ_of_le (Nat.le_trans (len_hds _) hl)
    have hbad : ¬ hdOk hd' → headsOf P.prot P.heads = .error tHd := fun hn => by rw [hH, hdrop, headsOf, if_pos hn]; rfl
    have hj8 : JoinHere 3 := rfl
    k_steps
    · rename (hd'.2.length : Int) = 0 => h0
      k_extra "my:my raised"
      exact exc_end hexc (by assumption) (by assumption) (fun p hp => .tail _ (.tail _ (.tail _ (.tail _ (m0 p hp))))) (by assumption) ⟨rfl, hbad fun h => h.1 (by omega)⟩
    · rename hsize _ _ ≠ _ => h0
      k_extra "my:my raised"
      exact exc_end hexc (by assumption) (by assumption) (fun p hp => .tail _ (.tail _ (.tail _ (.tail _ (m0 p hp))))) (by assumption) ⟨rfl, hbad fun h => h0 h.2⟩
    · rename _ ≠ 0 => h0
      rename hsize _ _ = _ => h1
      have hok : hdOk hd' := ⟨by omega, h1⟩
      refine Stop.out ?_
      rename JoinHere 3 => hj7
      clear hj7
      (try k_extra "my:my fold")
      rename Fr _ _ _ _ => F5
      rename News _ _ _ (_ :: _) => N5
      refine join_set F5 N5 (Str.ofString "behind") (fun t => .int (nxt P.prot (P.heads.drop (i + 1))) t) (fun h6 t6 k6 F6 N6 => ?_) ?_
      rotate_left
      · k_steps
        · rename (i : Int) + 1 < _ => h2
          rename DatIn _ _ _ => hD
          rename (P.heads.map datHd)[_]? = _ => hk2
          have e1' : ((i : Int) + 1).toNat = i + 1 := by omega
          rw [e1', List.getElem?_map] at hk2
          obtain ⟨h3, hh3, rfl⟩ := Option.map_eq_some_iff.mp hk2
          obtain ⟨a2, n2, t2, t3, rfl, ma2⟩ := datHd_inv hD
          have hnx : nxt P.prot (P.heads.drop (i + 1)) = h3.1 := by rw [drop_at hh3]; rfl
          rename News _ _ _ (_ :: _) => N5
          have N6 := put N5 (.tail _ (.tail _ (.tail _ (.tail _ (m0 _ ma2)))))
          k_steps
          rename Fr _ _ _ _ => F7
          rename News _ _ _ _ => N7
          rw [hnx]
          exact JoinEnd.intro ⟨_, _, _, rfl, F7, cb_drop N7 (by k_extra "my:my sub")⟩
        · rename ¬ (i : Int) + 1 < _ => h2
          have hnx : nxt P.prot (P.heads.drop (i + 1)) = P.prot := by rw [List.drop_eq_nil_of_le (by omega)]; rfl
          rename Fr _ _ _ _ => F7
          rename News _ _ _ _ => N7
          rw [hnx]
          exact JoinEnd.intro ⟨_, _, _, rfl, knows1 F7 rfl, N7⟩
      have hoc := octs_len (nxt P.prot (P.heads.drop (i + 1))) 1
      k_steps
      · rename KBw.bInts (ob ++ _) = _ => hO
        rename Fr _ _ _ _ => F'
        rename News _ _ _ _ => N'
        rename _ ∧ _ < (256 : Int) ^ 1 => hr
        rw [octs_one hr] at hO
        exact TurnEnd.intro F' N' (by k_mem) (news' := (it, oI) :: news₁) (fun p hp => .tail _ (.tail _ (.tail _ (.tail _ (.tail _ (hin p hp)))))) hap
          ⟨news₁, rfl, fun p hp => (ha p hp).2, rfl, rfl, _, _, _, rfl, hO, hgood hok hr, hlen' _⟩ rfl
      · rename ¬ (_ ∧ _) ∧ _ => hx
        obtain ⟨hx, rfl, rfl⟩ := hx
        refine on_leave (by assumption) (by assumption) (by assumption) (by assumption) fun h8 R8 s8 => ?_
        exact exc_end hexc (by assumption) (by assumption) (fun p hp => .tail _ (.tail _ (.tail _ (.tail _ (m0 p hp))))) (by assumption) ⟨rfl, hfit hok hx⟩
  · intro m₁ news₁ h tk hpt4 F N
    (try k_extra "my:my fold")
    obtain ⟨rfl, e1, ob, pre, t1, e2, hpre, hH, hL⟩ := hpt4
    have F := knows2 F e1 e2
    k_steps
    rw [hvl, List.drop_length] at hH
    have hH : headsOf P.prot P.heads = .ok pre := hH.trans (by simp [headsOf, cat])
    exact ret0 hret (by k_asm) (by k_asm) (by k_extra "my:my sub") ⟨pre, t1, hH, by rw [bytes_eq hpre], rfl⟩))) only [↓heldQ_eq]
theorem headsOf_ok {prot : Int} : ∀ {hs : List Hd} {o : List Int}, headsOf prot hs = .ok o → (∀ h ∈ hs, ∀ k ∈ h.2, 0 ≤ k ∧ k < 256) → o.length = hdsLen hs ∧ ∀ k ∈ o, 0 ≤ k ∧ k < 256
  | [], o, e, _ => by cases e; exact ⟨rfl, fun _ h => nomatch h⟩
  | h :: r, o, e, hb => by
    rw [headsOf] at e
    split at e
    · cases e
    · split at e
      · cases e
      · rename_i hn
        cases q : headsOf prot r with
        | error x => rw [q] at e; cases e
        | ok o' =>
          rw [q] at e
          cases e
          obtain ⟨h1, h2⟩ := headsOf_ok q fun h hh => hb h (.tail _ hh)
          refine ⟨by simp [hdsLen, h1] <;> omega, fun k hk => ?_⟩
          rcases List.mem_append.mp hk with hk | hk
          · rcases List.mem_cons.mp hk with rfl | hk
            · exact Decidable.of_not_not hn
            · exact hb h (.head _) k hk
          · exact h2 k hk

theorem part_19 : True := by
  w_top off
  trivial
theorem said_25 : True := by
  k_with "my:call ref" => (k_here; (fail_if_success plain_pass); (with_reducible show wpAny _ _ (call (Value.ref 133) _) _ _ _); k_dflt ( refine' CalledE.use ?k1 ?k2 ?k3 ?k4 ?k5 ?k6 (write_heads_c _ _ _ _ ?kp ?kb ?kl) trivial ?kd ?ku ?_ ?_; k_extra "my:my facts"; (case kp => assumption); (case kb => assumption); (case kl => assumption); (focus (intro v9 tl9 h9 tk9 F9 N9 r9; obtain ⟨o9, t9, ho9, q9, q8⟩ := r9; subst q9 q8; (try simp only [List.nil_append] at N9); (try dsimp only); (try k_extra "my:my fold")))))
  trivial
/-- the octets of a packet -/
noncomputable def writeOf (P : Pk) : Except (Addr × Str) (List Int) :=
  if P.dscp > 63 ∨ P.ecn > 3 ∨ P.flow > 1048575 then .error (44, tFld)
  else match headsOf P.prot P.heads with
    | .error e => .error (44, e)
    | .ok o =>
      if o.length + P.data.length > 65535 then .error (56, tLong)
      else
        if P.dscp < 0 ∨ P.ecn < 0 ∨ P.flow < 0 ∨ ¬ (0 ≤ nxt P.prot P.heads ∧ nxt P.prot P.heads < 256) ∨ ¬ (0 ≤ P.hop ∧ P.hop < 256) ∨ ¬ (0 ≤ P.src ∧ P.src < 256 ^ 16) ∨ ¬ (0 ≤ P.tgt ∧ P.tgt < 256 ^ 16) then .error (44, tFits)
        else .ok ((octs (((6 * 64 + P.dscp) * 4 + P.ecn) * 2 ^ 20 + P.flow) 4 ++ octs ((o.length + P.data.length : Nat) : Int) 2) ++ (octs (nxt P.prot P.heads) 1 ++ octs P.hop 1) ++ octs P.src 16 ++ octs P.tgt 16 ++ (o ++ P.data))
def PkOk (P : Pk) : Prop := (∀ h ∈ P.heads, ∀ k ∈ h.2, 0 ≤ k ∧ k < 256) ∧ hdsLen P.heads ≤ 70000 ∧ (∀ k ∈ P.data, 0 ≤ k ∧ k < 256) ∧ P.data.length ≤ 70000 ∧
  Builtin.Int.intBits P.dscp ≤ 1048600 ∧ Builtin.Int.intBits P.ecn ≤ 1048600
local macro_rules | `(tactic| kba_size) => `(tactic| k_extra "my:#kba_size")
theorem said_26 : True := by
  k_with "my:#kba_size" => ((simp only [octs_len, List.length_append, List.length_cons, List.length_nil]); omega)
  trivial
theorem or_neg {x y : Int} (h : x < 0) : Builtin.bitOr x y < 0 := by
  have e : Builtin.bitOr x y = Builtin.bitNot (Builtin.bitAnd (Builtin.bitNot x) (Builtin.bitNot y)) := rfl
  have h1 : 0 ≤ Builtin.bitNot x := by unfold Builtin.bitNot; omega
  have h2 := (PyProof.Rows.bitAnd_range (Builtin.bitNot y) h1).1
  rw [PyProof.Rows.bitAnd_comm] at h2
  rw [e]
  generalize Builtin.bitAnd (Builtin.bitNot x) (Builtin.bitNot y) = z at *
  unfold Builtin.bitNot
  omega
theorem or_neg' {x y : Int} (h : y < 0) : Builtin.bitOr x y < 0 := by rw [PyProof.Rows.bitOr_comm]; exact or_neg h
noncomputable abbrev wordIs (d e f : Int) : Int := Builtin.bitOr (Builtin.bitOr (Builtin.bitOr (6 * 2 ^ Int.toNat 28) (d * 2 ^ Int.toNat 22)) (e * 2 ^ Int.toNat 20)) f
theorem word_ok {d e f : Int} (h1 : ¬ (d > 63 ∨ e > 3 ∨ f > 1048575)) (h2 : ¬ (d < 0 ∨ e < 0 ∨ f < 0)) : wordIs d e f = ((6 * 64 + d) * 4 + e) * 2 ^ 20 + f ∧ (0 ≤ wordIs d e f ∧ wordIs d e f < 256 ^ 4) := by
  have a : Builtin.bitOr (6 * 2 ^ Int.toNat 28) (d * 2 ^ Int.toNat 22) = (6 * 64 + d) * 2 ^ 22 := by
    have := or_low 28 6 (d * 2 ^ 22) (by omega) (by omega)
    exact this.trans (by omega)
  have b : Builtin.bitOr ((6 * 64 + d) * 2 ^ 22) (e * 2 ^ Int.toNat 20) = ((6 * 64 + d) * 4 + e) * 2 ^ 20 := by
    have := or_low 22 (6 * 64 + d) (e * 2 ^ 20) (by omega) (by omega)
    exact this.trans (by omega)
  have c := or_low 20 ((6 * 64 + d) * 4 + e) f (by omega) (by omega)
  have w : wordIs d e f = ((6 * 64 + d) * 4 + e) * 2 ^ 20 + f := by
    unfold wordIs
    rw [a, b, c]
  exact ⟨w, by rw [w]; omega⟩
theorem word_bad {d e f : Int} (h2 : d < 0 ∨ e < 0 ∨ f < 0) : wordIs d e f < 0 := by
  unfold wordIs
  rcases h2 with h | h | h
  · exact or_neg (or_neg (or_neg' (by
      have : d * 2 ^ Int.toNat 22 = d * 4194304 := rfl
      omega)))
  · exact or_neg (or_neg' (by
      have : e * 2 ^ Int.toNat 20 = e * 1048576 := rfl
      omega))
  · exact or_neg' h
theorem said_27 : True := by
  k_with "my:execs cons" => (k_here; (fail_if_success plain_pass); (with_reducible show wpAny _ _ (execs (Stmt.If (PySem.Expr.Attribute _ _ _) _ [] _ :: _) _) _ _ (Shared.mk _ _ _ _ _)); (with_reducible rename JoinHere 2 => hJ9); refine Stop.intro ?_)
  trivial
theorem write_ipv6_c (w : World) (news : List (Addr × Obj)) (v : Value) (P : Pk) (hp : PkIn news v P) (hok : PkOk P) :
    CalledE w 140 32 400 [v] news (fun _ => True) (fun v tl => ∃ o t, writeOf P = .ok o ∧ v = .bytes (byteArr o) t ∧ tl = []) (fun C why => writeOf P = .error (C, why)) := by
  refine of_heldQ ?_
  simp (disch := (refine anchorQ ?_; k_dflt (
  obtain ⟨hb, hl, hdb, hdl, hs4, hs5⟩ := hok
  have hB := KBa.ints_make hdb
  obtain ⟨e, dx, l, vs, n, _, _, _, _, _, _, _, _, _, _, _, _, _, _, _, _, _, _, _, _, _, _, _, _, _, _, rfl, m1, m2, m3, hda⟩ := id hp
  have hvl := hda.length
  rw [List.length_map] at hvl
  have hvb : vs.length < 70001 := by rw [hvl]; exact Nat.lt_succ_of_le (Nat.le_trans (len_hds _) hl)
  k_extra "my:my startE"
  rename_i hret hexc
  k_extra "my:my enter"
  k_steps
  · rename 63 < P.dscp => hf
    k_extra "my:my raised"
    exact exc_end hexc (by assumption) (by assumption) (by k_extra "my:my sub") (by assumption) (by unfold writeOf; rw [if_pos (by omega)]; rfl)
  · rename 3 < P.ecn => hf
    k_extra "my:my raised"
    exact exc_end hexc (by assumption) (by assumption) (by k_extra "my:my sub") (by assumption) (by unfold writeOf; rw [if_pos (by omega)]; rfl)
  · rename 1048575 < P.flow => hf
    k_extra "my:my raised"
    exact exc_end hexc (by assumption) (by assumption) (by k_extra "my:my sub") (by assumption) (by unfold writeOf; rw [if_pos (by omega)]; rfl)
  · rename headsOf _ _ = .ok _ => ho
    rename List Int => o'
    obtain ⟨ol, ob⟩ := headsOf_ok ho hb
    have hO := KBa.ints_make ob
    have hj8 : JoinHere 2 := rfl
    k_steps
    · rename (65535 : Int) < _ => hlong
      k_extra "my:my raised"
      exact exc_end hexc (by assumption) (by assumption) (by k_extra "my:my sub") (by assumption) (by unfold writeOf; rw [if_neg (by omega), ho]; show (if _ then _ else _) = _; rw [if_pos (by omega)]; rfl)
    · rename ¬ (65535 : Int) < _ => hlong
      have hf : ¬ (P.dscp > 63 ∨ P.ecn > 3 ∨ P.flow > 1048575) := by omega
      have hword : ¬ (0 ≤ wordIs P.dscp P.ecn P.flow ∧ wordIs P.dscp P.ecn P.flow < 256 ^ 4) → P.dscp < 0 ∨ P.ecn < 0 ∨ P.flow < 0 := fun h => Decidable.byContradiction fun hn => h (word_ok hf hn).2
      have hbad : P.dscp < 0 ∨ P.ecn < 0 ∨ P.flow < 0 ∨ ¬ (0 ≤ nxt P.prot P.heads ∧ nxt P.prot P.heads < 256) ∨ ¬ (0 ≤ P.hop ∧ P.hop < 256) ∨ ¬ (0 ≤ P.src ∧ P.src < 256 ^ 16) ∨ ¬ (0 ≤ P.tgt ∧ P.tgt < 256 ^ 16) → writeOf P = .error (44, tFits) := fun h => by
        unfold writeOf
        rw [if_neg hf, ho]
        show (if _ then _ else _) = _
        rw [if_neg (by omega), if_pos h]
      have hgo : ¬ (P.dscp < 0 ∨ P.ecn < 0 ∨ P.flow < 0 ∨ ¬ (0 ≤ nxt P.prot P.heads ∧ nxt P.prot P.heads < 256) ∨ ¬ (0 ≤ P.hop ∧ P.hop < 256) ∨ ¬ (0 ≤ P.src ∧ P.src < 256 ^ 16) ∨ ¬ (0 ≤ P.tgt ∧ P.tgt < 256 ^ 16)) →
          writeOf P = .ok ((octs (((6 * 64 + P.dscp) * 4 + P.ecn) * 2 ^ 20 + P.flow) 4 ++ octs ((o'.length + P.data.length : Nat) : Int) 2) ++ (octs (nxt P.prot P.heads) 1 ++ octs P.hop 1) ++ octs P.src 16 ++ octs P.tgt 16 ++ (o' ++ P.data)) := fun h => by
        unfold writeOf
        rw [if_neg hf, ho]
        show (if _ then _ else _) = _
        rw [if_neg (by omega), if_neg h]
      refine Stop.out ?_
      rename JoinHere 2 => hj7
      clear hj7
      (try k_extra "my:my fold")
      rename Fr _ _ _ _ => F5
      rename News _ _ _ _ => N5
      refine join_set F5 N5 (Str.ofString "kind") (fun t => .int (nxt P.prot P.heads) t) (fun h6 t6 k6 F6 N6 => ?_) ?_
      rotate_left
      · k_steps
        rename News _ _ _ _ => N6
        refine wpAny_truthy_list ⟨_, (N6 _ m3).1, rfl, _, rfl⟩ (by rw [List.size_toArray]; omega) ?_
        cases hds : P.heads with
        | nil =>
          rw [hds] at hvl
          have hv0 : vs = [] := List.eq_nil_of_length_eq_zero hvl
          subst hv0
          (try dsimp only)
          k_steps
          rename Fr _ _ _ _ => F7
          rename News _ _ _ _ => N7
          exact JoinEnd.intro ⟨_, _, _, rfl, knows1 F7 rfl, N7⟩
        | cons h0 hr =>
          rw [hds] at hvl hda
          obtain ⟨v0, vs', rfl⟩ : ∃ v0 vs', vs = v0 :: vs' := by
            cases vs with
            | nil => cases hvl
            | cons a b => exact ⟨a, b, rfl⟩
          cases hda with
          | cons d1 d2 =>
          obtain ⟨a2, n2, t2, t3, rfl, ma2⟩ := datHd_inv d1
          rw [if_pos (by rfl)]
          have N7 := put (put (put (put N6 m2) (.tail _ m1)) (.tail _ (.tail _ m3))) (.tail _ (.tail _ (.tail _ ma2)))
          k_steps
          rename Fr _ _ _ _ => F7
          rename News _ _ _ _ => N7
          exact JoinEnd.intro ⟨_, _, _, rfl, F7, cb_drop N7 (by k_extra "my:my sub")⟩
      k_steps
      · rename KBw.bInts (_ ++ (byteArr _ ++ byteArr P.data)) = _ => hfin
        (with_reducible rename _ ∧ _ < (256 : Int) ^ 4 => hw)
        (with_reducible rename 0 ≤ P.src ∧ _ => r1)
        (with_reducible rename 0 ≤ P.tgt ∧ _ => r2)
        (with_reducible rename 0 ≤ P.hop ∧ _ => r3)
        (with_reducible rename 0 ≤ nxt P.prot P.heads ∧ _ => r4)
        have hn : ¬ (P.dscp < 0 ∨ P.ecn < 0 ∨ P.flow < 0) := fun h => absurd hw.1 (Int.not_le.mpr (word_bad h))
        have hwo := (word_ok hf hn).1
        have hres : writeOf P = .ok ((octs (((6 * 64 + P.dscp) * 4 + P.ecn) * 2 ^ 20 + P.flow) 4 ++ octs ((o'.length + P.data.length : Nat) : Int) 2) ++ (octs (nxt P.prot P.heads) 1 ++ octs P.hop 1) ++ octs P.src 16 ++ octs P.tgt 16 ++ (o' ++ P.data)) := hgo fun h => by
          rcases h with h | h | h | h | h | h | h
          · exact hn (.inl h)
          · exact hn (.inr (.inl h))
          · exact hn (.inr (.inr h))
          · exact h r4
          · exact h r3
          · exact h r1
          · exact h r2
        rw [← hwo] at hres
        exact ret0 hret (by k_asm) (by k_asm) (by k_extra "my:my sub") ⟨_, _, hres, by rw [bytes_eq hfin], rfl⟩
      all_goals (
        rename ¬ (_ ∧ _) ∧ _ => hx
        obtain ⟨hx, rfl, rfl⟩ := hx
        refine on_leave (by assumption) (by assumption) (by assumption) (by assumption) fun h8 R8 s8 => ?_
        refine exc_end hexc (by assumption) (by assumption) (by k_extra "my:my sub") (by assumption) (hbad ?_)
        first
          | with_reducible exact .inr (.inr (.inr (.inr (.inr (.inr hx)))))
          | with_reducible exact .inr (.inr (.inr (.inr (.inr (.inl hx)))))
          | (have h1 : ¬ (0 ≤ P.hop ∧ P.hop < 256 ^ 1) := by (with_reducible exact hx)
             exact .inr (.inr (.inr (.inr (.inl h1)))))
          | (have h1 : ¬ (0 ≤ nxt P.prot P.heads ∧ nxt P.prot P.heads < 256 ^ 1) := by (with_reducible exact hx)
             exact .inr (.inr (.inr (.inl h1))))
          | (exfalso; refine hx ⟨?_, ?_⟩ <;> omega)
          | exact (hword hx).elim .inl fun h => .inr (h.elim .inl fun h => .inr (.inl h)))
  · refine on_leave (by assumption) (by assumption) (by assumption) (by assumption) fun h8 R8 s8 => ?_
    rename _ ∧ headsOf _ _ = _ => hx
    obtain ⟨rfl, hx⟩ := hx
    exact exc_end hexc (by assumption) (by assumption) (by k_extra "my:my sub") (by assumption) (by unfold writeOf; rw [if_neg (by omega), hx])))) only [↓heldQ_eq]

theorem part_20 : True := by
  w_top off
  trivial
/-! ## the law's own walk -/
inductive IsWalk (news : List (Addr × Obj)) (R : Wk) (v : Value) (tl : List (Addr × Obj)) : Prop
  | mk (p hl : Addr) (vs : List Value) (n : Nat) (dl : Addr) (ds : List Value) (n2 : Nat) (tw tp : Tok) (hv : v = .ref p) (mp : (p, tupObj [.str R.1 tw, .ref hl, .int R.2.2.1 tp, .ref dl]) ∈ tl) (mh : (hl, listOf vs.toArray n) ∈ tl) (hda : DatAll tl vs (R.2.1.map datHd))
    (md : (dl, listOf ds.toArray n2) ∈ tl ++ news) (hds : IntsAre ds R.2.2.2) : IsWalk news R v tl
theorem slice_body {ns : List Int} {W : Int} (h : W ≤ ns.length) : List.take (min W.toNat ns.length - 1) (List.drop 1 ns) = (ns.take W.toNat).drop 1 := by
  rw [Nat.min_eq_left (by omega), List.drop_take]
theorem any_five (k : Int) : (([0, 43, 44, 51, 60] : List Int).any fun x => x == k) = decide (hsize k 0 ≠ 0) := by
  simp only [List.any_cons, List.any_nil, Bool.or_false]
  unfold hsize
  by_cases h1 : k = 0
  · subst h1; rfl
  · by_cases h2 : k = 43
    · subst h2; rfl
    · by_cases h3 : k = 60
      · subst h3; rfl
      · by_cases h4 : k = 51
        · subst h4; rfl
        · by_cases h5 : k = 44
          · subst h5; rfl
          · simp [h1, h2, h3, h4, h5, Ne.symm h1, Ne.symm h2, Ne.symm h3, Ne.symm h4, Ne.symm h5]
theorem walk_short {kind : Int} {ns : List Int} {first : Bool} (hin : hsize kind 0 ≠ 0) (h : ns.length < 2 ∨ (ns.length : Int) < hsize kind (ns.getD 1 0)) : walk kind ns first = (tTrunc, [], 0, []) := by
  rw [walk, if_neg hin, if_pos (h.elim .inl fun h => .inr (.inl h))]
theorem walk_hop {kind : Int} {ns : List Int} {first : Bool} (hin : hsize kind 0 ≠ 0) (h2 : ¬ ns.length < 2) (hw : ¬ (ns.length : Int) < hsize kind (ns.getD 1 0)) (h0 : 0 ≤ ns.getD 1 0) (hf : kind = 0 ∧ first = false) : walk kind ns first = (tHop, [], 0, []) := by
  have := hsize_pos hin h0
  rw [walk, if_neg hin, if_neg (by omega), if_pos hf]
theorem walk_pos {kind : Int} {ns : List Int} {first : Bool} (hin : hsize kind 0 ≠ 0) (h2 : ¬ ns.length < 2) (hw : ¬ (ns.length : Int) < hsize kind (ns.getD 1 0)) (h0 : 0 ≤ ns.getD 1 0) (hf : ¬ (kind = 0 ∧ first = false)) :
    walk kind ns first = if kind = 44 ∧ 256 * ns.getD 2 0 + ns.getD 3 0 > 7 then (tNone, [(kind, (ns.take (hsize kind (ns.getD 1 0)).toNat).drop 1)], ns.getD 0 0, ns.drop (hsize kind (ns.getD 1 0)).toNat)
      else prep [(kind, (ns.take (hsize kind (ns.getD 1 0)).toNat).drop 1)] (walk (ns.getD 0 0) (ns.drop (hsize kind (ns.getD 1 0)).toNat) false) := by
  have := hsize_pos hin h0
  rw [walk, if_neg hin, if_neg (by omega), if_neg hf]
theorem said_28 : True := by
  k_with "my:call ref" => (k_here; (fail_if_success plain_pass); (with_reducible show wpAny _ _ (call (Value.ref 220) _) _ _ _); refine Stop.intro ?_)
  k_with "my:subscriptTail Name Slice ref ref" => (k_here; (fail_if_success plain_pass); (with_reducible show wpAny _ _ (subscriptTail _ (PySem.Expr.Slice (some _) none none _) (Value.ref _) (Value.ref _)) _ _ _); k_dflt (refine' kmk_slice_ints ?slF ?slN ?sll ?slp ?slq ?sli ?slm ?slc ?_ ?sls ?slt ?slz; (case slF => k_asm); (case slN => k_asm); (case sll => kmk_list); (case slp => exact IsPart.int _ _); (case slq => exact IsPart.none); (case sli => with_reducible assumption); (case slm => exact kmk_from (by with_reducible assumption) (by omega)); (case slc => exact List.length_drop ..); (case sls => with_unfolding_all rfl); (case slt => kmk_pure); (case slz => kmk_size)); intro D' ws' h' F' N' l1 hI' hC' hL'; (try k_lt l1); (try k_sweep))
  trivial
theorem walk_count : ∀ (kind : Int) (ns : List Int) (first : Bool), (∀ k ∈ ns, 0 ≤ k ∧ k < 256) → (walk kind ns first).2.1.length ≤ ns.length := by
  intro kind ns
  induction hn : ns.length using Nat.strongRecOn generalizing kind ns with
  | _ n ih =>
  intro f hk
  subst hn
  by_cases hin : hsize kind 0 = 0
  · rw [walk_stop hin]; exact Nat.zero_le _
  by_cases h2 : ns.length < 2
  · rw [walk_short hin (.inl h2)]; exact Nat.zero_le _
  by_cases hw : (ns.length : Int) < hsize kind (ns.getD 1 0)
  · rw [walk_short hin (.inr hw)]; exact Nat.zero_le _
  have h0 := (getD_in hk 1).1
  have h8 := hsize_pos hin h0
  by_cases hf : kind = 0 ∧ f = false
  · rw [walk_hop hin h2 hw h0 hf]; exact Nat.zero_le _
  rw [walk_pos hin h2 hw h0 hf]
  split
  · show 1 ≤ ns.length
    omega
  · have := ih (ns.drop (hsize kind (ns.getD 1 0)).toNat).length (by rw [List.length_drop]; omega) (ns.getD 0 0) _ rfl false fun k h => hk k (List.mem_of_mem_drop h)
    rw [List.length_drop] at this
    show ([_] ++ _ : List Hd).length ≤ _
    rw [List.length_append, List.length_singleton]
    omega
section
variable {prog : Program} {w : World} {A : Around} {E : Value → Shared → Prop} {s : Shared} {h₀ : Heap} {L a b : Addr} {m : Str → Option Value} {news : List (Addr × Obj)} {xs ys : List Value} {n k : Nat} {Q : Value → Shared → Prop}
theorem add_two (F : Fr h₀ L s.heap m) (N : News h₀ L s.heap news) (ha : (a, listOf xs.toArray n) ∈ news) (hb : (b, listOf ys.toArray k) ∈ news) (hz : xs.length + ys.length ≤ 100000)
    (h : ∀ D h', Fr h₀ L h' m → News h₀ L h' ((D, listOf (xs ++ ys).toArray 0) :: news) → (∀ p ∈ news, p.1 < D) → Q (.ref D) { s with heap := h' }) : wpAny (model prog w) A (binaryOp .Add (.ref a) (.ref b)) Q E s :=
  add_lists F N ⟨_, (N _ ha).1, rfl, _, rfl⟩ ⟨_, (N _ hb).1, rfl, _, rfl⟩ (fun h' F' N' => h _ h' F' N' fun p hp => Heap.lt_size (N p hp).1) (by rw [sizeLine_eq]; omega)
end
theorem six {α : Type} {p a b c d e f : α} {l : List α} (h : p ∈ l) : p ∈ a :: b :: c :: d :: e :: f :: l := .tail _ (.tail _ (.tail _ (.tail _ (.tail _ (.tail _ h)))))
theorem law_walk_step (w : World) (N : Nat) (ih : ∀ (news : List (Addr × Obj)) (kind : Int) (l : Addr) (vs : List Value) (n : Nat) (ns : List Int) (first : Bool) (t : Tok), (l, listOf vs.toArray n) ∈ news → IntsAre vs ns → (∀ k ∈ ns, 0 ≤ k ∧ k < 256) → ns.length + 8 ≤ 8 * N → ns.length ≤ 1000 →
    Called w 220 (2 * N + 4) (100 * N + 100) [.int kind t, .ref l, .bool first] news (fun _ => True) (IsWalk news (walk kind ns first)))
    (news : List (Addr × Obj)) (kind : Int) (l : Addr) (vs : List Value) (n : Nat) (ns : List Int) (first : Bool) (t : Tok) (hm : (l, listOf vs.toArray n) ∈ news) (hi : IntsAre vs ns) (hk : ∀ k ∈ ns, 0 ≤ k ∧ k < 256) (hl : ns.length ≤ 8 * N) (hl2 : ns.length ≤ 1000) :
    Called w 220 (2 * N + 6) (100 * N + 200) [.int kind t, .ref l, .bool first] news (fun _ => True) (IsWalk news (walk kind ns first)) := by
  refine of_heldQ ?_
  simp (disch := (refine anchorQ ?_; k_dflt (
  k_extra "my:my start"
  rename_i hret
  k_extra "my:my enter"
  have hvl := hi.length
  have hvsz : vs.toArray.size = ns.length := by rw [List.size_toArray, hvl]
  have hl62 : ns.length < 2 ^ 62 := by omega
  have hb1 : 0 ≤ ns.getD (Int.toNat 1) 0 ∧ ns.getD (Int.toNat 1) 0 < 256 := getD_in hk 1
  have hs1 := hsize_le (k := kind) hb1
  have hW : hsize kind (ns.getD 1 0) = hsize kind (ns.getD (Int.toNat 1) 0) := rfl
  have hb0 : 0 ≤ ns.getD 1 0 := hb1.1
  have hg2 : ns.getD 2 0 = ns.getD (Int.toNat 2) 0 := rfl
  have hg3 : ns.getD 3 0 = ns.getD (Int.toNat 3) 0 := rfl
  rename Fr _ _ _ _ => F0
  rename News _ _ _ _ => N0
  have N1 := put N0 hm
  have hj9 : JoinHere 1 := rfl
  k_steps
  all_goals (try (rename (List.any _ _) = true => hin; rw [any_five, decide_eq_true_eq] at hin))
  · rename (ns.length : Int) < hsize _ _ => hw
    rw [walk_short hin (.inr hw)] at hret
    exact retAll hret (by k_asm) (by k_asm) (by k_extra "my:my sub") ⟨_, _, [], 0, _, [], 0, _, _, rfl, .head _, .tail _ (.tail _ (.head _)), .nil, List.mem_append_left _ (.tail _ (.head _)), .nil⟩
  · refine Stop.out ?_
    (try k_extra "my:my fold")
    have hW8 := hsize_pos hin hb1.1
    rename ¬ (ns.length : Int) < hsize _ _ => hw
    refine joinT (¬ (kind = 0 ∧ first = false)) (fun hnf tJ => ?_) ?_
    rotate_left
    · k_steps
      · rename first = true => hf1
        exact JoinEnd.intro ⟨fun h => Bool.noConfusion (hf1.symm.trans h.2), _, rfl⟩
      · rename kind = 0 => hk0
        rename first = false => hf0
        rw [walk_hop hin (by omega) hw hb0 ⟨hk0, hf0⟩] at hret
        exact retAll hret (by k_asm) (by k_asm) (by k_extra "my:my sub") ⟨_, _, [], 0, _, [], 0, _, _, rfl, .head _, .tail _ (.tail _ (.head _)), .nil, List.mem_append_left _ (.tail _ (.head _)), .nil⟩
      · rename kind ≠ 0 => hk0
        exact JoinEnd.intro ⟨fun h => hk0 h.1, _, rfl⟩
    have hwp := walk_pos (first := first) hin (by omega) hw hb0 hnf
    k_steps
    refine Stop.out ?_
    rename IntsAre _ (List.take _ _) => hI
    rw [slice_body (by omega)] at hI
    rename Fr _ _ _ _ => F5
    rename News _ _ _ _ => N5
    have hbl : ((ns.take (hsize kind (ns.getD (Int.toNat 1) 0)).toNat).drop 1).length ≤ ns.length := by rw [List.length_drop, List.length_take]; omega
    have hbi : KBa.In ((ns.take (hsize kind (ns.getD (Int.toNat 1) 0)).toNat).drop 1) := fun k h => hk k (List.mem_of_mem_take (List.mem_of_mem_drop h))
    refine KBa.make_K F5 N5 rfl ⟨_, (N5 _ (.head _)).1, rfl, _, rfl⟩ hI hbi (Nat.le_trans hbl (by omega)) fun h9 t9 k9 F9 N9 hin9 => ?_
    k_steps
    refine Stop.out ?_
    (try k_extra "my:my fold")
    refine joinT (¬ (kind = 44 ∧ 256 * ns.getD 2 0 + ns.getD 3 0 > 7)) (fun hn4 tJ => ?_) ?_
    rotate_left
    · k_steps
      · rw [hwp, if_pos ⟨by assumption, by omega⟩] at hret
        exact retAll hret (by k_asm) (by k_asm) (by k_extra "my:my sub") ⟨_, _, _, _, _, _, _, _, _, rfl, .head _, .tail _ (.tail _ (.head _)), .cons (.tuple (.tail _ (.tail _ (.tail _ (.head _)))) (.cons (.int _ _) (.cons (.bytes _ _) .nil))) .nil, List.mem_append_left _ (.tail _ (.head _)), by assumption⟩
      · exact JoinEnd.intro ⟨fun h => by omega, _, rfl⟩
      · rename kind ≠ 44 => hk4
        exact JoinEnd.intro ⟨fun h => hk4 h.1, _, rfl⟩
    k_steps
    refine Stop.out ?_
    rename IntsAre _ (List.drop (Int.toNat (hsize _ _)) _) => hI9
    k_dflt (refine' Called.use ?k1 ?k2 ?k3 ?k4 ?k5 ?k6 (ih _ _ _ _ _ _ _ _ (List.Mem.head _) hI9 (fun k h => hk k (List.mem_of_mem_drop h)) (by rw [List.length_drop]; omega) (by rw [List.length_drop]; omega)) trivial ?kd ?ku ?_)
    k_extra "my:my facts"
    intro v9 tl9 h9 tk9 F9 N9 hpt6
    (try k_extra "my:my fold")
    obtain ⟨p9, hl9, vs9, n9, dl9, ds9, n8, tw9, tp9, rfl, mp, mh, hda9, md, hds9⟩ := hpt6
    (try dsimp only)
    have hv9 := hda9.length
    rw [List.length_map] at hv9
    have hc9 := walk_count (ns.getD (Int.toNat 0) 0) (ns.drop (hsize kind (ns.getD (Int.toNat 1) 0)).toNat) false fun k h => hk k (List.mem_of_mem_drop h)
    rw [List.length_drop] at hc9
    have N9 := put (put (put N9 md) (.tail _ (List.mem_append_left _ mh))) (.tail _ (.tail _ (List.mem_append_left _ mp)))
    k_steps
    rw [hwp, if_neg hn4] at hret
    exact retAll hret (by k_asm) (by k_asm) (by k_extra "my:my sub") ⟨_, _, _, _, _, _, _, _, _, rfl, .head _, .tail _ (.head _), .cons (.tuple (six (List.mem_append_right _ (.tail _ (.head _)))) (.cons (.int _ _) (.cons (.bytes _ _) .nil))) (hda9.mono fun p hp => six (List.mem_append_left _ hp)), List.mem_append_left _ (.tail _ (.tail _ (.tail _ (.tail _ (.tail _ (.head _)))))), hds9⟩
  · rw [walk_short hin (.inl (by omega))] at hret
    exact retAll hret (by k_asm) (by k_asm) (by k_extra "my:my sub") ⟨_, _, [], 0, _, [], 0, _, _, rfl, .head _, .tail _ (.tail _ (.head _)), .nil, List.mem_append_left _ (.tail _ (.head _)), .nil⟩
  · rename (List.any _ _) = false => hno
    rw [any_five, decide_eq_false_iff_not, Decidable.not_not] at hno
    rw [walk_stop hno] at hret
    exact retAll hret (by k_asm) (by k_asm) (by k_extra "my:my sub") ⟨_, _, [], 0, l, vs, n, _, _, rfl, .head _, .tail _ (.head _), .nil, List.mem_append_right _ hm, hi⟩))) only [↓heldQ_eq]
theorem law_walk_c (w : World) : ∀ (N : Nat) (news : List (Addr × Obj)) (kind : Int) (l : Addr) (vs : List Value) (n : Nat) (ns : List Int) (first : Bool) (t : Tok), (l, listOf vs.toArray n) ∈ news → IntsAre vs ns → (∀ k ∈ ns, 0 ≤ k ∧ k < 256) → ns.length ≤ 8 * N → ns.length ≤ 1000 →
    Called w 220 (2 * N + 6) (100 * N + 200) [.int kind t, .ref l, .bool first] news (fun _ => True) (IsWalk news (walk kind ns first))
  | 0 => law_walk_step w 0 fun news kind l vs n ns first t _ _ _ h _ => absurd h (by omega)
  | N + 1 => law_walk_step w (N + 1) fun news kind l vs n ns first t a b c d e => law_walk_c w N news kind l vs n ns first t a b c (by omega) e

theorem part_21 : True := by
  w_top off
  trivial
/-! ## the law's heads -/
/-- a head as the law holds it: its kind, its body as a list of ints -/
noncomputable def datLd (h : Hd) : Dat := .tuple [.int h.1, .list (h.2.map Dat.int)]
def HdsFine (k : Nat) (hs : List Hd) : Prop := ∀ h ∈ hs, (0 ≤ h.1 ∧ h.1 < 256) ∧ KBa.In h.2 ∧ h.2.length + k ≤ 31 ∧ k ≤ h.2.length
theorem HdsFine.nil {k : Nat} : HdsFine k [] := fun _ h => nomatch h
theorem HdsFine.snoc {k : Nat} {hs : List Hd} {h : Hd} (a : HdsFine k hs) (b : (0 ≤ h.1 ∧ h.1 < 256) ∧ KBa.In h.2 ∧ h.2.length + k ≤ 31 ∧ k ≤ h.2.length) : HdsFine k (hs ++ [h]) := fun x hx => by
  rcases List.mem_append.mp hx with hx | hx
  · exact a x hx
  · rw [List.mem_singleton.mp hx]; exact b
theorem ints_dat {news : List (Addr × Obj)} {vs : List Value} {ns : List Int} (h : IntsAre vs ns) : DatAll news vs (ns.map Dat.int) := by
  induction h with
  | nil => exact .nil
  | cons _ _ _ ih => exact .cons (.int _ _) ih
theorem dat_ints {news : List (Addr × Obj)} : ∀ {vs : List Value} {ns : List Int}, DatAll news vs (ns.map Dat.int) → IntsAre vs ns
  | _, [], .nil => .nil
  | _, _ :: _, .cons (.int _ _) h => .cons _ _ (dat_ints h)
/-- a new list of heads, of new objects or what was handed in -/
inductive IsLheads (n k : Nat) (news : List (Addr × Obj)) (v : Value) (tl : List (Addr × Obj)) : Prop
  | mk (l : Addr) (vs : List Value) (c : Nat) (hs : List Hd) (hv : v = .ref l) (m : (l, listOf vs.toArray c) ∈ tl) (hda : DatAll (tl ++ news) vs (hs.map datLd)) (hn : hs.length ≤ n) (hf : HdsFine k hs) : IsLheads n k news v tl
section
variable {prog : Program} {w : World} {A : Around} {E : Value → Shared → Prop} {s : Shared} {h₀ : Heap} {L a b : Addr} {m : Str → Option Value} {news : List (Addr × Obj)} {xs ys : List Value} {n k : Nat} {ns ms : List Int} {Q : Value → Shared → Prop}
theorem add_ints (F : Fr h₀ L s.heap m) (N : News h₀ L s.heap news) (ha : (a, listOf xs.toArray n) ∈ news) (hb : (b, listOf ys.toArray k) ∈ news) (hi : IntsAre xs ns) (hj : IntsAre ys ms) (hz : ns.length + ms.length ≤ 100000)
    (h : ∀ D us h', Fr h₀ L h' m → News h₀ L h' ((D, listOf (List.toArray us) 0) :: news) → (∀ p ∈ news, p.1 < D) → IntsAre us (ns ++ ms) → Q (.ref D) { s with heap := h' }) : wpAny (model prog w) A (binaryOp .Add (.ref a) (.ref b)) Q E s :=
  kmk_add_ints F N ⟨_, (N _ ha).1, rfl, _, rfl⟩ ⟨_, (N _ hb).1, rfl, _, rfl⟩ hi hj h (by rw [sizeLine_eq]; omega)
end
theorem said_29 : True := by
  k_with "my:binaryOp Add ref ref" => (k_here; (fail_if_success plain_pass); (with_reducible show wpAny _ _ (binaryOp _ (Value.ref _) (Value.ref _)) _ _ _); k_dflt (refine' add_ints ?adF ?adN ?adA ?adB ?adI ?adJ ?adZ ?_; (case adF => k_asm); (case adN => k_asm); (case adA => k_mem); (case adB => k_mem); (case adI => first | with_reducible assumption | k_extra "my:my ints"); (case adJ => first | with_reducible assumption | k_extra "my:my ints"); (case adZ => (simp only [some_length, List.length_append, List.length_cons, List.length_nil]; omega)); intro D' us' h' F' N' l1 hI'; (try k_lt l1); (try k_sweep)))
  k_with "my:my tail" => (repeat (first | assumption | refine List.mem_cons_of_mem _ ?_ | refine List.mem_append_right _ ?_))
  k_with "my:my ints" => (first | exact IntsAre.nil | exact IntsAre.cons _ _ IntsAre.nil | exact IntsAre.cons _ _ (IntsAre.cons _ _ IntsAre.nil))
  trivial
theorem menu_kinds (j : Nat) : ([0, 51, 44, 60, 43, 60, 0, 51] : List Int).getD j 0 ∈ ([0, 43, 44, 51, 60] : List Int) := by
  by_cases h : j < 8
  · exact (by decide : ∀ j : Nat, j < 8 → ([0, 51, 44, 60, 43, 60, 0, 51] : List Int).getD j 0 ∈ ([0, 43, 44, 51, 60] : List Int)) j h
  · rw [getD_ge (by simpa using h)]; decide
theorem hsize_small {K S : Int} (hK : K ∈ ([0, 43, 44, 51, 60] : List Int)) (hS : 0 ≤ S ∧ S < 3) : 8 ≤ hsize K S ∧ hsize K S ≤ 24 ∧ (K = 44 → hsize K S = 8) := by
  simp only [List.mem_cons, List.not_mem_nil, or_false] at hK
  unfold hsize
  rcases hK with rfl | rfl | rfl | rfl | rfl <;> simp <;> omega
theorem some_in (d : Int) (n : Nat) (shift : Int) : KBa.In (some_ d n shift) := fun k hk => by
  obtain ⟨p, _, rfl⟩ := List.mem_map.mp hk
  omega
/-- a list of heads that a loop fills: x its name, G what else of the frame stays -/
inductive LhJ (k : Nat) (news : List (Addr × Obj)) (l0 : Addr) (x : Str) (G : (Str → Option Value) → Prop) (i : Nat) (m : Str → Option Value) (nx : List (Addr × Obj)) : Prop
  | mk (us : List Value) (c : Nat) (rest : List (Addr × Obj)) (hs : List Hd) (hnx : nx = (l0, listOf us.toArray c) :: rest) (g : G m) (ex : m x = some (.ref l0)) (hsub : ∀ p ∈ news, p ∈ rest) (hne : ∀ p ∈ rest, p.1 ≠ l0) (hda : DatAll rest us (hs.map datLd)) (hil : hs.length = i) (hf : HdsFine k hs) : LhJ k news l0 x G i m nx
theorem LhJ.next {k : Nat} {h₀ h' : Heap} {L I l0 : Addr} {oI : Obj} {x : Str} {G : (Str → Option Value) → Prop} {i tk c : Nat} {s₀ s₁ : Shared} {m' : Str → Option Value} {led news rest add : List (Addr × Obj)} {us : List Value} {v : Value} {hs : List Hd} {h : Hd}
    (F : Fr h₀ L h' m') (N : News h₀ L h' led) (mI : (I, oI) ∈ led) (ml : (l0, listOf (us ++ [v]).toArray (c + 1)) ∈ led) (hv : DatIn (add ++ rest) v (datLd h)) (hadd : ∀ p ∈ add, p ∈ led ∧ p.1 ≠ I ∧ p.1 ≠ l0)
    (hsub : ∀ p ∈ news, p ∈ rest) (hne : ∀ p ∈ rest, p.1 ≠ l0) (hda : DatAll rest us (hs.map datLd)) (hil : hs.length = i) (hfine : HdsFine k hs) (hh : (0 ≤ h.1 ∧ h.1 < 256) ∧ KBa.In h.2 ∧ h.2.length + k ≤ 31 ∧ k ≤ h.2.length)
    (hrest : ∀ p ∈ rest, p ∈ led ∧ p.1 ≠ I) (hl : l0 ≠ I) (g : G m') (ex : m' x = some (.ref l0)) (e : ({ s₁ with heap := h', toks := tk } : Shared) = { s₀ with heap := h', toks := tk }) :
    TurnEnd h₀ L I oI (LhJ k news l0 x G (i + 1)) s₀ { s₁ with heap := h', toks := tk } := by
  have hr : ∀ p ∈ add ++ rest, p ∈ led ∧ p.1 ≠ I ∧ p.1 ≠ l0 := fun p hp => (List.mem_append.mp hp).elim (hadd p) fun q => ⟨(hrest p q).1, (hrest p q).2, hne p q⟩
  refine TurnEnd.intro F N mI (news' := (l0, listOf (us ++ [v]).toArray (c + 1)) :: (add ++ rest)) (List.forall_mem_cons.mpr ⟨ml, fun p hp => (hr p hp).1⟩) (List.forall_mem_cons.mpr ⟨hl, fun p hp => (hr p hp).2.1⟩) ⟨_, _, _, hs ++ [h], rfl, g, ex, fun p hp => List.mem_append_right _ (hsub p hp), fun p hp => (hr p hp).2.2, ?_, ?_, hfine.snoc hh⟩ e
  · rw [List.map_append]
    exact (hda.mono fun p hp => List.mem_append_right _ hp).append (.cons hv .nil)
  · rw [List.length_append, hil]; rfl
theorem kinds_in {K : Int} (hK : K ∈ ([0, 43, 44, 51, 60] : List Int)) : 0 ≤ K ∧ K < 256 := by
  simp only [List.mem_cons, List.not_mem_nil, or_false] at hK
  omega
theorem menu_words (j : Nat) : 0 ≤ ([0, 1, 8, 9, 2, 65528, 6, 16] : List Int).getD j 0 ∧ ([0, 1, 8, 9, 2, 65528, 6, 16] : List Int).getD j 0 < 65536 := by
  by_cases h : j < 8
  · exact (by decide : ∀ j : Nat, j < 8 → 0 ≤ ([0, 1, 8, 9, 2, 65528, 6, 16] : List Int).getD j 0 ∧ ([0, 1, 8, 9, 2, 65528, 6, 16] : List Int).getD j 0 < 65536) j h
  · rw [getD_ge (by simpa using h)]; decide
theorem fm_in (x : Int) : 0 ≤ x.fmod 256 ∧ x.fmod 256 < 256 := by rw [fm (by decide)]; omega
theorem fd_in {x : Int} (h : 0 ≤ x ∧ x < 65536) : 0 ≤ x.fdiv 256 ∧ x.fdiv 256 < 256 := by rw [fd (by decide)]; omega
theorem in_set {ns : List Int} {j : Nat} {x : Int} (h : KBa.In ns) (hx : 0 ≤ x ∧ x < 256) : KBa.In (ns.set j x) := fun k hk => (List.mem_or_eq_of_mem_set hk).elim (h k) fun e => e ▸ hx
theorem said_30 : True := by
  k_with "my:setItem" => (k_here; (fail_if_success plain_pass); (with_reducible rename JoinHere 9 => hJ9); (with_reducible show wpAny _ _ (setItem (Value.ref _) (Value.int 1 _) (Value.int _ _)) _ _ _); refine Stop.intro ?_)
  k_with "my:setItem ref int" => (k_here; (fail_if_success plain_pass); (with_reducible rename JoinHere 9 => hJ9); (with_reducible show wpAny _ _ (setItem (Value.ref _) (Value.int 1 _) (Value.int _ _)) _ _ _); refine Stop.intro ?_)
  trivial
theorem law_heads_c (w : World) (news : List (Addr × Obj)) (l : Addr) (vs : List Value) (ns : List Int) (hi : IntsAre vs ns) (hlen : ns.length < 64) :
    Called w 189 8 130 [.ref l] news (fun base => base.IsList l vs.toArray) (IsLheads 4 1 news) := by
  refine of_heldQ ?_
  simp (disch := (refine anchorQ ?_; k_dflt (
  k_extra "my:my start"
  rename_i hret
  have hNFN : NoFoldN := trivial
  have hNFF : NoFoldF := trivial
  k_extra "my:my enter"
  k_steps
  rename IsRange _ _ _ _ _ _ _ _ => hr
  rename Fr _ _ _ _ => F
  rename News _ _ _ _ => N
  rename ∀ p ∈ news, p.1 < _ => hlt
  refine for_range rfl hr (n := ((dig ns (Int.toNat 9) + 3).fmod 5).toNat) (by rw [fm (by decide)]; omega) (by rw [fm (by decide)]; omega) F N
    (LhJ 1 news _ (Str.ofString "heads") fun m => m (Str.ofString "script") = some (.ref l)) ⟨[], 0, news, [], rfl, rfl, rfl, fun _ h => h, all_ne hlt, .nil, rfl, .nil⟩ ?_ ?_ (by with_unfolding_all passes_own) (by intro _ _; rfl)
  · intro i t m₁ news₁ h tk I oI hi' hltI hpt10 ha F N
    (try k_extra "my:my fold")
    obtain ⟨us, c, rest, hs, rfl, e1, e2, hsub, hne, hda, hil, hfine⟩ := hpt10
    have F := knows2 F e1 e2
    k_steps
    rename Fr _ _ _ _ => F5
    rename News _ _ _ _ => N5
    generalize hSe : ((cellAt ns (10 + (i : Int)) 0).fdiv 8 + (i : Int)).fmod 3 = S at F5 N5 ⊢
    generalize hKe : ([0, 51, 44, 60, 43, 60, 0, 51] : List Int).getD ((cellAt ns (10 + (i : Int)) 0 + (i : Int)).fmod 8).toNat 0 = K at F5 N5 ⊢
    have hS : 0 ≤ S ∧ S < 3 := by rw [← hSe, fm (by decide)]; omega
    have hK := menu_kinds ((cellAt ns (10 + (i : Int)) 0 + (i : Int)).fmod 8).toNat
    rw [hKe] at hK
    obtain ⟨hz1, hz2, hz3⟩ := hsize_small hK hS
    have hul := hda.length
    rw [List.length_map, hil] at hul
    have hi5 : i < 5 := by rw [fm (by decide)] at hi'; omega
    have hul2 : us.length < 5 := by omega
    have hI0 := ltN (hltI _ (.head _))
    dsimp only at hI0
    have hj8 : JoinHere 9 := rfl
    k_steps
    all_goals (
      rename JoinHere 9 => hj7
      clear hj7
      (try with_reducible refine Stop.out ?_)
      rename IntsAre _ (_ ++ some_ _ _ _) => hI9
      generalize hbs : [S] ++ some_ ((cellAt ns (10 + (i : Int)) 0).fdiv 1536) (hsize K S - 2).toNat (19 * (i : Int) + 5) = bs at hI9
      have hbin : KBa.In bs := by rw [← hbs]; exact List.forall_mem_cons.mpr ⟨by omega, some_in _ _ _⟩
      have hbl : bs.length = 1 + (hsize K S - 2).toNat := by rw [← hbs, List.length_append, some_length]; rfl
      have hb7 : 7 ≤ bs.length := by omega
      k_steps)
    all_goals rename News _ _ _ _ => N6
    all_goals (try dsimp +zetaDelta only at N6)
    all_goals rw [List.push_toArray] at N6
    · have hw := menu_words (((cellAt ns (10 + (i : Int)) 0).fdiv 192).fmod 8).toNat
      rename IntsAre _ (List.set (List.set _ _ _) _ _) => hI8
      refine LhJ.next (by k_asm) N6 (by k_mem) (by k_mem) (h := (K, _)) (add := [_, _]) (.tuple (.head _) (.cons (.int _ _) (.cons (.list (.tail _ (.head _)) (ints_dat hI8)) .nil))) (List.forall_mem_cons.mpr ⟨⟨by k_mem, by k_ne, by k_ne⟩, List.forall_mem_cons.mpr ⟨⟨by k_mem, by k_ne, by k_ne⟩, fun _ h => nomatch h⟩⟩)
        hsub hne hda hil hfine ⟨kinds_in hK, in_set (in_set hbin (fd_in hw)) (fm_in _), by simp only [List.length_set]; omega, by simp only [List.length_set]; omega⟩ (fun p hp => ⟨by k_extra "my:my tail", ha p (.tail _ hp)⟩) (Nat.ne_of_lt hI0) rfl rfl rfl
    · refine LhJ.next (by k_asm) N6 (by k_mem) (by k_mem) (h := (K, _)) (add := [_, _]) (.tuple (.head _) (.cons (.int _ _) (.cons (.list (.tail _ (.head _)) (ints_dat hI9)) .nil))) (List.forall_mem_cons.mpr ⟨⟨by k_mem, by k_ne, by k_ne⟩, List.forall_mem_cons.mpr ⟨⟨by k_mem, by k_ne, by k_ne⟩, fun _ h => nomatch h⟩⟩)
        hsub hne hda hil hfine ⟨kinds_in hK, hbin, by show bs.length + 1 ≤ 31; omega, by show 1 ≤ bs.length; omega⟩ (fun p hp => ⟨by k_extra "my:my tail", ha p (.tail _ hp)⟩) (Nat.ne_of_lt hI0) rfl rfl rfl
  · intro m₁ news₁ h tk hpt4 F N
    (try k_extra "my:my fold")
    obtain ⟨us, c, rest, hs, rfl, e1, e2, hsub, hne, hda, hil, hfine⟩ := hpt4
    have F := knows2 F e1 e2
    k_steps
    have h4 : ((dig ns (Int.toNat 9) + 3).fmod 5).toNat ≤ 4 := by rw [fm (by decide)]; omega
    exact retAll hret (by k_asm) (by k_asm) (fun p hp => .tail _ (hsub p hp)) ⟨_, us, c, hs, rfl, .head _, hda.mono fun p hp => List.mem_append_left _ (.tail _ hp), hil ▸ h4, hfine⟩))) only [↓heldQ_eq]
theorem said_31 : True := by
  k_with "my:call ref" => (k_here; (fail_if_success plain_pass); (with_reducible show wpAny _ _ (call (Value.ref 189) _) _ _ _); refine Stop.intro ?_)
  trivial

theorem part_22 : True := by
  w_top off
  trivial
theorem allLt_ne {d : Nat} : ∀ {l : List (Addr × Obj)}, AllLt d l → ∀ p ∈ l, p.1 ≠ d
  | [], _, _, h => nomatch h
  | _ :: _, h, _, .head _ => Nat.ne_of_lt h.1
  | _ :: _, h, _, .tail _ m => allLt_ne h.2 _ m
theorem datLd_inv {news : List (Addr × Obj)} {v : Value} {h : Hd} (d : DatIn news v (datLd h)) :
    ∃ a n t b ws c, v = .ref a ∧ (a, ({ cls := .type "tuple", data := .seq [.int h.1 t, .ref b].toArray n } : Obj)) ∈ news ∧ (b, listOf ws.toArray c) ∈ news ∧ IntsAre ws h.2 := by
  unfold datLd at d
  cases d with
  | tuple hm hd =>
    cases hd with
    | cons d1 d2 =>
      cases d2 with
      | cons d2 d3 =>
        cases d3
        cases d1
        cases d2 with
        | list hm2 hd2 => exact ⟨_, _, _, _, _, _, rfl, hm, hm2, dat_ints hd2⟩
/-- a mark: the way is named -/
def WayOk (x : Int) : Prop := x = x
theorem said_32 : True := by
  k_with "my:exec If" => (k_here; (fail_if_success plain_pass); (with_reducible show wpAny _ _ (exec (Stmt.If (PySem.Expr.Compare (PySem.Expr.Name ("way" : Str) _) _ _ _) _ _ _) _) _ _ _); (fail_if_success (with_reducible rename WayOk _ => hw9)); refine Stop.intro ?_)
  trivial
theorem law_spoilt_c (w : World) (news : List (Addr × Obj)) (l : Addr) (vs : List Value) (ns : List Int) (hi : IntsAre vs ns) (hlen : ns.length < 64) (l2 : Addr) (vs2 : List Value) (n2 : Nat) (hs : List Hd) (hm : (l2, listOf vs2.toArray n2) ∈ news) (hda : DatAll news vs2 (hs.map datLd)) (hn : hs.length ≤ 4) (hf : HdsFine 1 hs) :
    Called w 196 8 130 [.ref l, .ref l2] news (fun base => base.IsList l vs.toArray) (IsLheads 4 0 news) := by
  refine of_heldQ ?_
  simp (disch := (refine anchorQ ?_; k_dflt (
  k_extra "my:my start"
  rename_i hret
  have hNFN : NoFoldN := trivial
  have hNFF : NoFoldF := trivial
  k_extra "my:my enter"
  have hvl := hda.length
  rw [List.length_map] at hvl
  have hvsz : vs2.toArray.size = hs.length := by rw [List.size_toArray, hvl]
  have hl62 : hs.length < 2 ^ 62 := by omega
  rename Fr _ _ _ _ => F0
  rename News _ _ _ _ => N0
  have N1 := put N0 hm
  k_steps
  rename IsRange _ _ _ _ _ _ _ _ => hr
  rename Fr _ _ _ _ => F
  rename News _ _ _ _ => N
  rename _ ∧ AllLt _ news => hlt
  refine for_range rfl hr (n := hs.length) rfl (by omega) F N
    (LhJ 0 news _ (Str.ofString "out") fun m => m (Str.ofString "script") = some (.ref l) ∧ m (Str.ofString "heads") = some (.ref l2)) ⟨[], 0, _, [], rfl, ⟨rfl, rfl⟩, rfl, fun _ h => .tail _ h, List.forall_mem_cons.mpr ⟨Nat.ne_of_lt hlt.1, allLt_ne hlt.2⟩, .nil, rfl, .nil⟩ ?_ ?_ (by with_unfolding_all passes_own) (by intro _ _; rfl)
  · intro i t m₁ news₁ h tk I oI hi' hltI hpt10 ha F N
    (try k_extra "my:my fold")
    obtain ⟨us, c, rest, js, rfl, ⟨e1, e3⟩, e2, hsub, hne, hda2, hil, hfine⟩ := hpt10
    have F := knows3 F e1 e3 e2
    have hul := hda2.length
    rw [List.length_map, hil] at hul
    have hul2 : us.length < 5 := by omega
    have hI0 := ltN (hltI _ (.head _))
    dsimp only at hI0
    have N := put N (.tail _ (.tail _ (hsub _ hm)))
    k_steps
    rename DatIn _ _ _ => hD
    rename (hs.map datLd)[_]? = _ => hk2
    rw [List.getElem?_map] at hk2
    obtain ⟨h3, hh3, rfl⟩ := Option.map_eq_some_iff.mp hk2
    obtain ⟨a2, n2, t2, b2, ws, c2, rfl, ma2, mb2, hws⟩ := datLd_inv hD
    obtain ⟨f1, f2, f3, f4⟩ := hf _ (List.mem_of_getElem? hh3)
    have y1 := neN (hne _ (hsub _ ma2))
    have y2 := neN (hne _ (hsub _ mb2))
    have y3 := neN (hne _ (hsub _ hm))
    dsimp only at y1 y2 y3
    rename News _ _ _ _ => N5
    have N6 := put (put N5 (.tail _ (.tail _ (.tail _ (hsub _ ma2))))) (.tail _ (.tail _ (.tail _ (.tail _ (hsub _ mb2)))))
    k_steps
    refine Stop.out ?_
    rename Fr _ _ _ _ => F7
    generalize hW : ((dig ns (10 + (i : Int)).toNat).fdiv 24).fmod 8 = W at F7 ⊢
    have hw9 : WayOk W := rfl
    clear hW
    have hcs : W = 4 ∨ W = 5 ∨ W = 6 ∨ W = 7 ∨ ((W == 4) = false ∧ (W == 5) = false ∧ (W == 6) = false ∧ (W == 7) = false) := by simp only [beq_eq_false_iff_ne]; omega
    rcases hcs with rfl | rfl | rfl | rfl | ⟨w4, w5, w6, w7⟩
    all_goals k_steps
    all_goals rename News _ _ _ _ => N8
    all_goals (try dsimp +zetaDelta only at N8)
    all_goals rw [List.push_toArray] at N8
    · rename IntsAre _ (h3.2 ++ _) => hI8
      refine LhJ.next (by k_asm) N8 (by k_mem) (by k_mem) (h := (h3.1, _)) (add := [_, _]) (.tuple (.head _) (.cons (.int _ _) (.cons (.list (.tail _ (.head _)) (ints_dat hI8)) .nil))) (List.forall_mem_cons.mpr ⟨⟨by k_mem, by k_ne, by k_ne⟩, List.forall_mem_cons.mpr ⟨⟨by k_mem, by k_ne, by k_ne⟩, fun _ h => nomatch h⟩⟩)
        hsub hne hda2 hil hfine ⟨f1, List.forall_mem_append.mpr ⟨f2, List.forall_mem_cons.mpr ⟨by omega, fun _ h => nomatch h⟩⟩, by rw [List.length_append]; show _ + 1 ≤ 31; omega, Nat.zero_le _⟩ (fun p hp => ⟨by k_extra "my:my tail", ha p (.tail _ hp)⟩) (Nat.ne_of_lt hI0) ⟨rfl, rfl⟩ rfl rfl
    · rename IntsAre _ (List.take _ h3.2) => hI8
      refine LhJ.next (by k_asm) N8 (by k_mem) (by k_mem) (h := (h3.1, _)) (add := [_, _]) (.tuple (.head _) (.cons (.int _ _) (.cons (.list (.tail _ (.head _)) (ints_dat hI8)) .nil))) (List.forall_mem_cons.mpr ⟨⟨by k_mem, by k_ne, by k_ne⟩, List.forall_mem_cons.mpr ⟨⟨by k_mem, by k_ne, by k_ne⟩, fun _ h => nomatch h⟩⟩)
        hsub hne hda2 hil hfine ⟨f1, fun k h => f2 k (List.mem_of_mem_take h), by show (List.take _ _).length ≤ 31; rw [List.length_take]; omega, Nat.zero_le _⟩ (fun p hp => ⟨by k_extra "my:my tail", ha p (.tail _ hp)⟩) (Nat.ne_of_lt hI0) ⟨rfl, rfl⟩ rfl rfl
    · refine LhJ.next (by k_asm) N8 (by k_mem) (by k_mem) (h := (h3.1, _)) (add := [_, _]) (.tuple (.head _) (.cons (.int _ _) (.cons (.list (.tail _ (.head _)) (ints_dat .nil)) .nil))) (List.forall_mem_cons.mpr ⟨⟨by k_mem, by k_ne, by k_ne⟩, List.forall_mem_cons.mpr ⟨⟨by k_mem, by k_ne, by k_ne⟩, fun _ h => nomatch h⟩⟩)
        hsub hne hda2 hil hfine ⟨f1, fun _ h => (nomatch h), by show 0 ≤ 31; omega, Nat.zero_le _⟩ (fun p hp => ⟨by k_extra "my:my tail", ha p (.tail _ hp)⟩) (Nat.ne_of_lt hI0) ⟨rfl, rfl⟩ rfl rfl
    · refine LhJ.next (by k_asm) N8 (by k_mem) (by k_mem) (h := (17, _)) (add := [_]) (.tuple (.head _) (.cons (.int _ _) (.cons (.list (.tail _ (hsub _ mb2)) (ints_dat hws)) .nil))) (List.forall_mem_cons.mpr ⟨⟨by k_mem, by k_ne, by k_ne⟩, fun _ h => nomatch h⟩)
        hsub hne hda2 hil hfine ⟨by show (0 : Int) ≤ 17 ∧ (17 : Int) < 256; omega, f2, by show h3.2.length ≤ 31; omega, Nat.zero_le _⟩ (fun p hp => ⟨by k_extra "my:my tail", ha p (.tail _ hp)⟩) (Nat.ne_of_lt hI0) ⟨rfl, rfl⟩ rfl rfl
    · refine LhJ.next (by k_asm) N8 (by k_mem) (by k_mem) (h := (h3.1, _)) (add := [_]) (.tuple (.head _) (.cons (.int _ _) (.cons (.list (.tail _ (hsub _ mb2)) (ints_dat hws)) .nil))) (List.forall_mem_cons.mpr ⟨⟨by k_mem, by k_ne, by k_ne⟩, fun _ h => nomatch h⟩)
        hsub hne hda2 hil hfine ⟨f1, f2, by show h3.2.length ≤ 31; omega, Nat.zero_le _⟩ (fun p hp => ⟨by k_extra "my:my tail", ha p (.tail _ hp)⟩) (Nat.ne_of_lt hI0) ⟨rfl, rfl⟩ rfl rfl
  · intro m₁ news₁ h tk hpt4 F N
    (try k_extra "my:my fold")
    obtain ⟨us, c, rest, js, rfl, ⟨e1, e3⟩, e2, hsub, hne, hda2, hil, hfine⟩ := hpt4
    have F := knows1 F e2
    k_steps
    exact retAll hret (by k_asm) (by k_asm) (fun p hp => .tail _ (hsub p hp)) ⟨_, us, c, js, rfl, .head _, hda2.mono fun p hp => List.mem_append_left _ (.tail _ hp), by omega, hfine⟩))) only [↓heldQ_eq]
theorem said_33 : True := by
  k_with "my:call ref" => (k_here; (fail_if_success plain_pass); (with_reducible show wpAny _ _ (call (Value.ref 196) _) _ _ _); refine Stop.intro ?_)
  trivial

theorem part_23 : True := by
  w_top off
  trivial
/-! ## the octets as the law makes them -/
/-- the heads' octets, each telling the next one's kind -/
noncomputable def payL (prot : Int) : List Hd → List Int
  | [] => []
  | h :: r => (nxt prot r :: h.2) ++ payL prot r
noncomputable def wholeOf (P : Pk) : Int := (((((((6 * 64 + P.dscp) * 4 + P.ecn) * 2 ^ 20 + P.flow) * 65536 + ((payL P.prot P.heads ++ P.data).length : Nat)) * 256 + nxt P.prot P.heads) * 256 + P.hop) * 2 ^ 128 + P.src) * 2 ^ 128 + P.tgt
noncomputable def octL (P : Pk) : List Int := octs (wholeOf P) 40 ++ (payL P.prot P.heads ++ P.data)
/-- the fields fit -/
def PkFits (P : Pk) : Prop := (0 ≤ P.src ∧ P.src < 2 ^ 128) ∧ (0 ≤ P.tgt ∧ P.tgt < 2 ^ 128) ∧ (0 ≤ P.prot ∧ P.prot < 256) ∧ (0 ≤ P.hop ∧ P.hop < 256) ∧ (0 ≤ P.dscp ∧ P.dscp < 64) ∧ (0 ≤ P.ecn ∧ P.ecn < 4) ∧ (0 ≤ P.flow ∧ P.flow < 2 ^ 20)
noncomputable def fieldsOf (P : Pk) : List Int := [P.src, P.tgt, P.prot, P.hop, P.dscp, P.ecn, P.flow]
theorem ints7 {vs : List Value} {a b c d e f g : Int} (h : IntsAre vs [a, b, c, d, e, f, g]) : ∃ t0 t1 t2 t3 t4 t5 t6, vs = [.int a t0, .int b t1, .int c t2, .int d t3, .int e t4, .int f t5, .int g t6] := by
  rcases h with _ | ⟨_, _, _ | ⟨_, _, _ | ⟨_, _, _ | ⟨_, _, _ | ⟨_, _, _ | ⟨_, _, _ | ⟨_, _, ⟨⟩⟩⟩⟩⟩⟩⟩⟩
  exact ⟨_, _, _, _, _, _, _, rfl⟩
section
variable {prog : Program} {w : World} {A : Around} {h₀ : Heap} {L : Addr} {m : Str → Option Value} {env : Env} {elt : PySem.Expr} {x : Str} {scope : Scope} {cl : List (Str × Addr)} {s : Shared} {S : List (Addr × Obj) → Prop} {P : Nat → Value → Prop} {Fin : List Value → List (Addr × Obj) → Prop} {news : List (Addr × Obj)}
/-- a comprehension by what holds of its list and the ledger -/
theorem comp_inv {n : Nat} (J : Nat → List Value → List (Addr × Obj) → Prop) (h0 : J 0 [] news)
    (turn : ∀ i ys nw v I oI C oC D m₂ h tk (E' : Value → Shared → Prop), i < n → P i v → J i ys nw → LCg.NsObj oC m₂ → m₂ x = some v → Fr h₀ L h m → News h₀ L h ((I, oI) :: (C, oC) :: (D, LCg.lst ys) :: nw) → LCg.Off3 I C D nw → ((@Ne Nat I C) ∧ (@Ne Nat I D) ∧ (@Ne Nat C D)) →
      wpAny (model prog w) A (eval elt (compEnvC scope cl C env)) (LCg.CompEnd h₀ L m { s with heap := h, toks := tk } I oI C oC D (LCg.lst ys) S (fun y nw' => J (i + 1) (ys ++ [y]) nw')) E' { s with heap := h, toks := tk })
    (fin : ∀ ys nw, J n ys nw → Fin ys nw) : LCg.CompRest prog w A h₀ L m env elt x scope cl s S P Fin n 0 [] news := by
  have key : ∀ (j i : Nat) (ys : List Value) (nw : List (Addr × Obj)), i + j = n → J i ys nw → LCg.CompRest prog w A h₀ L m env elt x scope cl s S P Fin j i ys nw := by
    intro j
    induction j with
    | zero => intro i ys nw hi hj; exact LCg.CompRest.zero (fin ys nw (by rw [← hi]; exact hj))
    | succ j ih =>
      intro i ys nw hi hj
      refine LCg.CompRest.succ fun v I oI C oC D m₂ h tk E' hv hC hx F N off ne => ?_
      refine wpAny_mono (turn i ys nw v I oI C oC D m₂ h tk E' (by omega) hv hj hC hx F N off ne) (fun y s₂ hq => ?_) fun _ _ e => e
      obtain ⟨h', tk', nw', e, F', N', off', hS, hj'⟩ := hq
      exact ⟨h', tk', nw', e, F', N', off', hS, ih (i + 1) _ _ (by omega) hj'⟩
  exact key n 0 [] news (by omega) h0
end
section
variable {prog : Program} {w : World} {A : Around} {E : Value → Shared → Prop} {s : Shared} {t u : Tok} {Q : Value → Shared → Prop}
theorem pow_lit (n v : Int) (hn : 0 ≤ n) (hn2 : n ≤ 1000000) (e : (2 : Int) ^ n.toNat = v) (h : Q (.int v s.toks) { s with toks := s.toks + 1 }) : wpAny (model prog w) A (binaryOp .Pow (.int 2 t) (.int n u)) Q E s :=
  pow_int_small hn hn2 (by decide) (by rw [e]; exact h)
theorem sub_lo {k : Int} (h : k < 0 + (((40 : Int) - 0).toNat : Int)) : 0 ≤ 39 - k := Int.sub_nonneg_of_le (Int.le_of_lt_add_one h)
theorem sub_hi {k : Int} (h : 0 ≤ k) : 39 - k < 2 ^ 63 := Int.lt_of_le_of_lt (Int.sub_le_self 39 h) (by decide)
theorem sub_len {k : Int} {n : Nat} (h : 0 ≤ k) (e : n = 40) : 39 - k < (n : Int) := by subst e; exact Int.lt_of_le_of_lt (Int.sub_le_self 39 h) (by decide)
theorem bits_200 {a : Int} (h : 0 ≤ a ∧ a < 2 ^ 200) : Builtin.Int.intBits a ≤ 2 ^ 20 := Nat.le_trans ((intBits_le_iff (m := 200)).mpr (by omega)) (by decide)
end
theorem said_34 : True := by
  k_with "my:binaryOp Pow int int" => (k_here; first | refine pow_lit 20 1048576 (by decide) (by decide) (by decide +kernel) ?_ | refine pow_lit 128 340282366920938463463374607431768211456 (by decide) (by decide) (by decide +kernel) ?_)
  k_with "my:binaryOp Mult int int" => (k_here; first | refine mul_int ?_ (PySem.IntMulOk.of_right (by decide)) | refine mul_int ?_ (PySem.IntMulOk.of_left (by decide)) | refine mul_int ?_ (PySem.IntMulOk.of_left (PySem.intBits_le_64 (by omega) (by omega))) | refine mul_int ?_ (PySem.IntMulOk.of_bits (bits_200 (by omega)) (by decide +kernel)))
  k_with "my:subscriptTail" => (k_here; (fail_if_success plain_pass); (with_reducible show wpAny _ _ (subscriptTail (PySem.Expr.Name _ _) _ (Value.ref _) (Value.int _ _)) _ _ _); k_dflt (refine' ksa_sub ?skN ?skM ?skI ?skA ?skB ?skC ?_ ?skS; (case skN => k_asm); (case skM => k_mem); (case skI => first | with_reducible assumption | k_extra "my:my ints7"); (case skA => omega); (case skB => first | omega | (simp only [List.length_cons, List.length_nil]; omega)); (case skC => omega); (case skS => with_unfolding_all rfl); intro _))
  k_with "my:subscriptTail Name BinOp ref int" => (k_here; (fail_if_success plain_pass); (with_reducible show wpAny _ _ (subscriptTail (PySem.Expr.Name _ _) _ (Value.ref _) (Value.int _ _)) _ _ _); k_dflt (refine' ksa_sub ?skN ?skM ?skI ?skA ?skB ?skC ?_ ?skS; (case skN => k_asm); (case skM => k_mem); (case skI => first | with_reducible assumption | k_extra "my:my ints7"); (case skA => exact sub_lo (by assumption)); (case skB => exact sub_len (by assumption) (by assumption)); (case skC => exact sub_hi (by assumption)); (case skS => with_unfolding_all rfl); intro _))
  k_with "my:my ints7" => (exact IntsAre.cons _ _ (IntsAre.cons _ _ (IntsAre.cons _ _ (IntsAre.cons _ _ (IntsAre.cons _ _ (IntsAre.cons _ _ (IntsAre.cons _ _ IntsAre.nil)))))))
  k_with "my:execs cons Assign cons" => (k_here; (with_reducible show wpAny _ _ (execs (Stmt.Assign _ (PySem.Expr.List [] _) _ :: Stmt.For _ _ _ _ _ :: _) _) _ _ _); (with_reducible refine wpAny_execs_cons ?_); (try dsimp only))
  k_with "my:execs cons" => (k_here; (fail_if_success plain_pass); (with_reducible show wpAny _ _ (execs (Stmt.Assign _ (PySem.Expr.BinOp (PySem.Expr.BinOp (PySem.Expr.BinOp (PySem.Expr.BinOp (PySem.Expr.Name ("whole" : Str) _) _ (PySem.Expr.BinOp _ _ _ _) _) _ _ _) _ _ _) _ _ _) _ :: _) _) _ _ _); (fail_if_success (with_reducible rename WayOk _ => hw9)); refine Stop.intro ?_)
  k_with "my:eval ListComp" => (k_here; (fail_if_success plain_pass); (with_reducible show wpAny _ _ (eval (PySem.Expr.ListComp (PySem.Expr.Subscript (PySem.Expr.Name ("head" : Str) _) _ _) _ _ _) _) _ _ _); k_dflt (refine LCg.ListComp_U (F₀ := by k_asm) (by with_unfolding_all rfl) (by decide) (by rfl) (by decide) (by rfl) ?_))
  trivial
theorem heads_ldat {news : List (Addr × Obj)} {vs : List Value} {hs : List Hd} (hda : DatAll news vs (hs.map datLd)) {i : Nat} {v : Value} (hv : vs[i]? = some v) : ∃ h, hs[i]? = some h ∧ DatIn news v (datLd h) := by
  have hl := hda.length
  rw [List.length_map] at hl
  have hi : i < hs.length := by rw [← hl]; exact (List.getElem?_eq_some_iff.mp hv).1
  obtain ⟨v', hv', hd⟩ := hda.get (k := i) (by rw [List.length_map]; exact hi)
  rw [hv] at hv'
  cases hv'
  rw [List.getElem_map] at hd
  exact ⟨hs[i], List.getElem?_eq_getElem hi, hd⟩
/-- the names that the octets are made of -/
def FldM (P : Pk) (t0 t1 t3 t4 t5 t6 : Tok) (lh ld : Addr) (m : Str → Option Value) : Prop :=
  m (Str.ofString "heads") = some (.ref lh) ∧ m (Str.ofString "data") = some (.ref ld) ∧ m (Str.ofString "source") = some (.int P.src t0) ∧ m (Str.ofString "target") = some (.int P.tgt t1) ∧ m (Str.ofString "hop") = some (.int P.hop t3) ∧ m (Str.ofString "dscp") = some (.int P.dscp t4) ∧ m (Str.ofString "ecn") = some (.int P.ecn t5) ∧ m (Str.ofString "flow") = some (.int P.flow t6)
theorem payL_len (prot : Int) : ∀ {hs : List Hd}, HdsFine 0 hs → (payL prot hs).length ≤ 32 * hs.length
  | [], _ => Nat.zero_le _
  | h :: r, f => by
    have := payL_len prot (hs := r) fun x hx => f x (.tail _ hx)
    have := (f h (.head _)).2.2.1
    simp only [payL, List.length_append, List.length_cons]
    omega
theorem behind_get (prot : Int) : ∀ (hs : List Hd) (j : Nat), j ≤ hs.length → (hs.map (·.1) ++ [prot]).getD j 0 = nxt prot (hs.drop j)
  | [], 0, _ => rfl
  | h :: r, 0, _ => rfl
  | h :: r, j + 1, hj => behind_get prot r j (by simpa using hj)
noncomputable def outs (W : Int) (i : Nat) : List Int := (List.range i).map fun j => W / 256 ^ j % 256
theorem outs_length (W : Int) (i : Nat) : (outs W i).length = i := by simp [outs]
theorem outs_succ (W : Int) (i : Nat) : outs W (i + 1) = outs W i ++ [W / 256 ^ i % 256] := by simp [outs, List.range_succ]
theorem outs_rev (W : Int) : (rangeKs 0 ((40 : Int) - 0).toNat).map (fun k' => (outs W 40).getD (39 - k').toNat 0) = octs W 40 := by
  unfold rangeKs octs
  rw [List.map_map]
  refine List.map_congr_left fun p hp => ?_
  have hp := List.mem_range.mp hp
  have hp : p < 40 := hp
  have e1 : (39 - (0 + (p : Int))).toNat = 39 - p := by omega
  show (outs W 40).getD (39 - (0 + (p : Int))).toNat 0 = _
  rw [e1, getD_lt (by rw [outs_length]; omega)]
  simp only [outs, List.getElem_map, List.getElem_range]
theorem allLt_lt {d : Nat} : ∀ {l : List (Addr × Obj)}, AllLt d l → ∀ p ∈ l, p.1 < d
  | [], _, _, h => nomatch h
  | _ :: _, h, _, .head _ => h.1
  | _ :: _, h, _, .tail _ m => allLt_lt h.2 _ m
inductive PayJ (P : Pk) (t0 t1 t3 t4 t5 t6 : Tok) (lh ld c0 : Addr) (co : Obj) (news : List (Addr × Obj)) (i : Nat) (m : Str → Option Value) (nx : List (Addr × Obj)) : Prop
  | mk (lp : Addr) (vp : List Value) (c : Nat) (pre : List Int) (lb : Addr) (vb : List Value) (cb : Nat) (hnx : nx = (lp, listOf vp.toArray c) :: (lb, listOf vb.toArray cb) :: (c0, co) :: news) (hL : lp ≠ c0 ∧ lb ≠ c0) (hB : IntsAre vb (P.heads.map (·.1) ++ [P.prot])) (hp : IntsAre vp pre)
    (hpre : pre ++ payL P.prot (P.heads.drop i) = payL P.prot P.heads) (e1 : m (Str.ofString "payload") = some (.ref lp)) (e2 : m (Str.ofString "behind") = some (.ref lb)) (hM : FldM P t0 t1 t3 t4 t5 t6 lh ld m) : PayJ P t0 t1 t3 t4 t5 t6 lh ld c0 co news i m nx
inductive OutsJ (lo lq : Addr) (xq : Array Value) (c0 : Addr) (co : Obj) (news : List (Addr × Obj)) (W : Int) (i : Nat) (m : Str → Option Value) (nx : List (Addr × Obj)) : Prop
  | mk (vo : List Value) (c : Nat) (hnx : nx = (lo, listOf vo.toArray c) :: (lq, listOf xq 0) :: (c0, co) :: news) (ho : IntsAre vo (outs W i)) (ew : ∃ t, m (Str.ofString "whole") = some (.int (W / 256 ^ i) t)) (ep : m (Str.ofString "payload") = some (.ref lq)) : OutsJ lo lq xq c0 co news W i m nx
theorem cat_b {x y A m : Int} (hm : 0 < m) (hx : 0 ≤ x ∧ x < A) (hy : 0 ≤ y ∧ y < m) : 0 ≤ x * m + y ∧ x * m + y < A * m := by
  have h1 := Int.mul_nonneg hx.1 (Int.le_of_lt hm)
  have h2 := Int.mul_le_mul_of_nonneg_right (Int.add_one_le_of_lt hx.2) (Int.le_of_lt hm)
  rw [Int.add_mul, Int.one_mul] at h2
  exact ⟨Int.add_nonneg h1 hy.1, Int.lt_of_lt_of_le (Int.add_lt_add_left hy.2 _) h2⟩
theorem word_b {d e f n h : Int} {a b : Nat} (f4 : 0 ≤ d ∧ d < 64) (f5 : 0 ≤ e ∧ e < 4) (f6 : 0 ≤ f ∧ f < 2 ^ 20) (ha : a ≤ 200) (hb : b ≤ 20) (hn : 0 ≤ n ∧ n < 256) (hh : 0 ≤ h ∧ h < 256) :
    0 ≤ ((((((6 * 64 + d) * 4 + e) * 1048576 + f) * 65536 + ((a + b : Nat) : Int)) * 256 + n) * 256 + h) ∧ ((((((6 * 64 + d) * 4 + e) * 1048576 + f) * 65536 + ((a + b : Nat) : Int)) * 256 + n) * 256 + h) < 2 ^ 64 := by
  have h0 : 0 ≤ 6 * 64 + d ∧ 6 * 64 + d < 448 := by omega
  have h1 := cat_b (by decide) (cat_b (by decide) (cat_b (by decide) (cat_b (by decide) (cat_b (by decide) h0 f5) f6) (show 0 ≤ ((a + b : Nat) : Int) ∧ ((a + b : Nat) : Int) < 65536 by omega)) hn) hh
  exact ⟨h1.1, Int.lt_of_lt_of_le h1.2 (by decide)⟩
theorem law_octets_c (w : World) (news : List (Addr × Obj)) (P : Pk) (lf lh ld : Addr) (vf vh vd : List Value) (nf nh nd : Nat) (hmf : (lf, listOf vf.toArray nf) ∈ news) (hif : IntsAre vf (fieldsOf P)) (hmh : (lh, listOf vh.toArray nh) ∈ news) (hdh : DatAll news vh (P.heads.map datLd))
    (hmd : (ld, listOf vd.toArray nd) ∈ news) (hid : IntsAre vd P.data) (hn : P.heads.length ≤ 4) (hf : HdsFine 0 P.heads) (hd : P.data.length ≤ 20) (hdi : KBa.In P.data) (hfit : PkFits P) :
    Called w 201 8 200 [.ref lf, .ref lh, .ref ld] news (fun base => True) (IsInts (octL P) news) := by
  refine of_heldQ ?_
  simp (disch := (refine anchorQ ?_; k_dflt (
  unfold fieldsOf at hif
  obtain ⟨t0, t1, t2, t3, t4, t5, t6, rfl⟩ := ints7 hif
  obtain ⟨f0, f1, f2, f3, f4, f5, f6⟩ := hfit
  have hvh := hdh.length
  rw [List.length_map] at hvh
  have hvsz : vh.toArray.size = P.heads.length := by rw [List.size_toArray, hvh]
  have hl62 : P.heads.length < 2 ^ 62 := by omega
  k_extra "my:my start"
  rename_i hret
  have hNFN : NoFoldN := trivial
  k_extra "my:my enterC"
  rename Fr _ _ _ _ => F0
  rename News _ _ _ _ => N0
  rename Obj => co
  rename ∀ p ∈ news, p.1 < L' => hltL
  have hnl : ∀ p ∈ news, p.1 ≠ L' + 1 := fun p hp => Nat.ne_of_lt (Nat.lt_succ_of_lt (hltL p hp))
  have hld := ltN (hltL _ hmd)
  dsimp only at hld
  have N1 := put (put (put N0 (.tail _ hmf)) (.tail _ (.tail _ hmh))) (.tail _ (.tail _ (.tail _ hmd)))
  k_steps
  rename Fr _ _ _ _ => F1
  rename News _ _ _ _ => N2
  refine LCg.CompSrc.ledger rfl F1 N2 (k := nh) (by k_mem) (by rw [List.size_toArray, hvh, sizeLine_eq]; omega) fun g => comp_inv (fun i ys nw => nw = _ ∧ IntsAre ys ((P.heads.take i).map (·.1))) ⟨rfl, .nil⟩ ?_ ?_
  · intro i ys nw v I oI C oC D m₂ h tk E' hi hv hpt15 hC hx F N off ne
    (try k_extra "my:my fold")
    obtain ⟨rfl, hy⟩ := hpt15
    obtain ⟨h3, hh3, hD⟩ := heads_ldat hdh (by simpa using hv)
    obtain ⟨a2, n2, t2, b2, ws, c2, rfl, ma2, mb2, hws⟩ := datLd_inv hD
    have N := put N (by k_extra "my:my tail" : (a2, ({ cls := .type "tuple", data := .seq [.int h3.1 t2, .ref b2].toArray n2 } : Obj)) ∈ _)
    k_steps
    refine LCg.CompEnd.intro (by k_asm) (by k_asm) _ (fun p hp => .tail _ hp) off (.inr ⟨_, .tail _ (.head _), rfl, _, rfl⟩) ⟨rfl, ?_⟩
    rw [List.take_add_one, hh3, List.map_append]
    exact hy.append (.cons _ _ .nil)
  · intro ys nw hpt2
    (try k_extra "my:my fold")
    obtain ⟨rfl, hy⟩ := hpt2
    intro D h tk F N off
    (try dsimp only)
    k_steps
    rename IsRange _ _ _ _ _ _ _ _ => hr
    rename Fr _ _ _ _ => F3
    rename News _ _ _ _ => N3
    rename IntsAre _ (_ ++ [P.prot]) => hB
    rw [hvsz, List.take_length] at hB
    have N4 := cb_drop N3 (List.forall_mem_cons.mpr ⟨.head _, List.forall_mem_cons.mpr ⟨.tail _ (.head _), List.forall_mem_cons.mpr ⟨(by k_mem : (L' + 1, co) ∈ _), fun p (hp : p ∈ news) => (by k_extra "my:my tail" : p ∈ _)⟩⟩⟩)
    refine for_range rfl hr (n := P.heads.length) rfl (by omega) F3 N4
      (PayJ P t0 t1 t3 t4 t5 t6 lh ld (L' + 1) co news)
      ⟨_, [], 0, [], _, _, 0, rfl, ⟨by k_ne, by k_ne⟩, hB, .nil, rfl, rfl, rfl, rfl, rfl, rfl, rfl, rfl, rfl, rfl, rfl⟩ ?_ ?_ (by with_unfolding_all passes_own) (by intro _ _; rfl)
    · intro i t m₁ news₁ h tk I oI hi' hltI hpt10 ha F N
      (try k_extra "my:my fold")
      obtain ⟨lp, vp, c, pre, lb, vb, cb, rfl, hLp, hB, hp, hpre, e1, e2, hM⟩ := hpt10
      obtain ⟨e3, e4, e5, e6, e7, e8, e9, e10⟩ := id hM
      have F := knows3 F e1 e2 e3
      generalize hbs : P.heads.map (·.1) ++ [P.prot] = bs at hB
      have hbn : bs.length = P.heads.length + 1 := by rw [← hbs, List.length_append, List.length_map]; rfl
      have hb1 : bs.getD ((i : Int) + 1).toNat 0 = nxt P.prot (P.heads.drop (i + 1)) := by rw [← hbs]; exact behind_get P.prot P.heads (i + 1) (by omega)
      have hpl := payL_len P.prot hf
      rw [← hpre, List.length_append] at hpl
      have hI0 := ltN (hltI _ (.head _))
      have hL0 := neN (ha _ (.head _))
      have hLp1 := neN hLp.1
      have hLp2 := neN hLp.2
      have hC0 := ltN (hltI _ (.tail _ (.tail _ (.head _))))
      dsimp only at hC0
      have hB0 := neN (ha _ (.tail _ (.head _)))
      dsimp only at hL0 hB0
      have hpl2 : pre.length ≤ 200 := by omega
      have N := put N (.tail _ (.tail _ (.tail _ (.tail _ hmh))))
      k_steps
      rename DatIn _ _ _ => hD
      rename (P.heads.map datLd)[_]? = _ => hk2
      rw [List.getElem?_map] at hk2
      obtain ⟨h3, hh3, rfl⟩ := Option.map_eq_some_iff.mp hk2
      obtain ⟨a2, n2, t2', b2, ws, c2, rfl, ma2, mb2, hws⟩ := datLd_inv hD
      have hh3 : P.heads[i]? = some h3 := hh3
      obtain ⟨g1, g2, g3, g4⟩ := hf _ (List.mem_of_getElem? hh3)
      rename News _ _ _ _ => N5
      have N6 := put N5 (p := (a2, ({ cls := .type "tuple", data := .seq [.int h3.1 t2', .ref b2].toArray n2 } : Obj))) (by k_extra "my:my tail")
      have N6 := put N6 (p := (b2, listOf ws.toArray c2)) (by k_extra "my:my tail")
      k_steps
      rename IntsAre _ (_ ++ h3.2) => hI8
      rename Fr _ _ _ _ => F9
      rename News _ _ _ _ => N9
      refine TurnEnd.intro F9 N9 (by k_mem) (news' := (_, _) :: (lb, _) :: (L' + 1, co) :: news) (List.forall_mem_cons.mpr ⟨.head _, List.forall_mem_cons.mpr ⟨by k_mem, List.forall_mem_cons.mpr ⟨by k_mem, fun p hp => by k_extra "my:my tail"⟩⟩⟩)
        (List.forall_mem_cons.mpr ⟨by k_ne, List.forall_mem_cons.mpr ⟨hB0, fun p hp => ha p (.tail _ (.tail _ hp))⟩⟩)
        ⟨_, _, _, _, lb, vb, cb, rfl, ⟨by k_ne, hLp.2⟩, (by rw [hbs]; exact hB), hI8, ?_, rfl, rfl, rfl, e4, e5, e6, e7, e8, e9, e10⟩ rfl
      rw [← hpre, drop_at hh3, hb1]
      simp [payL]
    · intro m₁ news₁ h tk hpt4 F N
      (try k_extra "my:my fold")
      obtain ⟨lp, vp, c, pre, lb, vb, cb, rfl, hLp, hB, hp, hpre, e1, e2, e3, e4, e5, e6, e7, e8, e9, e10⟩ := hpt4
      rw [List.drop_length] at hpre
      have hpre : pre = payL P.prot P.heads := (List.append_nil pre).symm.trans hpre
      subst hpre
      have hpl := payL_len P.prot hf
      have hpl2 : (payL P.prot P.heads).length ≤ 200 := by omega
      have hLp1 := neN hLp.1
      have hLp2 := neN hLp.2
      have F := knows F [(Str.ofString "payload", .ref lp), (Str.ofString "behind", .ref lb), (Str.ofString "data", .ref ld), (Str.ofString "source", .int P.src t0), (Str.ofString "target", .int P.tgt t1), (Str.ofString "hop", .int P.hop t3), (Str.ofString "dscp", .int P.dscp t4), (Str.ofString "ecn", .int P.ecn t5), (Str.ofString "flow", .int P.flow t6)] (by simp [e1, e2, e4, e5, e6, e7, e8, e9, e10])
      dsimp only [kn] at F
      have N := put N (.tail _ (.tail _ (.tail _ hmd)))
      generalize hbs : P.heads.map (·.1) ++ [P.prot] = bs at hB
      have hbn : bs.length = P.heads.length + 1 := by rw [← hbs, List.length_append, List.length_map]; rfl
      have hb0 : bs.getD (Int.toNat 0) 0 = nxt P.prot P.heads := by rw [← hbs]; cases P.heads <;> rfl
      have hnx : 0 ≤ nxt P.prot P.heads ∧ nxt P.prot P.heads < 256 := by
        cases hc : P.heads with
        | nil => exact f2
        | cons a b => exact (hf a (by rw [hc]; exact .head _)).1
      clear hbs
      k_steps
      refine Stop.out ?_
      have hw9 : WayOk 0 := rfl
      rename Fr _ _ _ _ => F8
      (try dsimp only at F8 ⊢)
      (try dsimp +zetaDelta only at F8)
      with_reducible generalize hW : (((((6 * 64 + P.dscp) * 4 + P.ecn) * 1048576 + P.flow) * 65536 + ((((payL P.prot P.heads).length + P.data.length : Nat)) : Int)) * 256 + bs.getD (Int.toNat 0) 0) * 256 + P.hop = W at F8
      have hWb : 0 ≤ W ∧ W < 2 ^ 64 := by
        rw [← hW, hb0]
        exact word_b f4 f5 f6 hpl2 hd hnx f3
      k_steps
      rename IsRange _ _ _ _ _ _ _ _ => hr2
      rename Fr _ _ _ _ => F6
      rename News _ _ _ _ => N6
      rename Obj => co2
      rename IntsAre _ (payL P.prot P.heads ++ P.data) => hPay
      (try dsimp only at F6)
      (try dsimp +zetaDelta only at F6)
      with_reducible generalize hW3 : (W * 340282366920938463463374607431768211456 + P.src) * 340282366920938463463374607431768211456 + P.tgt = W3 at F6
      have e : W3 = wholeOf P := by
        rw [← hW3, ← hW, hb0, wholeOf, List.length_append, show (2 : Int) ^ 20 = 1048576 from by decide +kernel, show (2 : Int) ^ 128 = 340282366920938463463374607431768211456 from by decide +kernel]
      clear hW hW3 hWb hb0 hnx f0 f1 f2 f3 f4 f5 f6 hbn
      have N7 := cb_drop N6 (List.forall_mem_cons.mpr ⟨.head _, List.forall_mem_cons.mpr ⟨.tail _ (.head _), List.forall_mem_cons.mpr ⟨(by k_mem : (L' + 1, co2) ∈ _), fun p (hp : p ∈ news) => (by k_extra "my:my tail" : p ∈ _)⟩⟩⟩)
      refine for_range rfl hr2 (n := 40) rfl (by decide) F6 N7
        (OutsJ _ _ _ (L' + 1) co2 news W3)
        ⟨[], 0, rfl, .nil, val_int rfl (by rw [Int.pow_zero, Int.ediv_one]), rfl⟩ ?_ ?_ (by with_unfolding_all passes_own) (by intro _ _; rfl)
      · intro i t m₁ news₁ h tk I oI hi' hltI hpt10 ha F N
        (try k_extra "my:my fold")
        obtain ⟨vo, c', rfl, hvo, ⟨tw, e11⟩, e12⟩ := hpt10
        have F := knows2 F e11 e12
        have hI0 := ltN (hltI _ (.head _))
        dsimp only at hI0
        have hvl := hvo.length
        rw [outs_length] at hvl
        have hvl2 : vo.length < 50 := by omega
        k_steps
        rename Fr _ _ _ _ => F9
        rename News _ _ _ _ => N9
        (try dsimp +zetaDelta only at N9)
        rw [List.push_toArray] at N9
        refine TurnEnd.intro F9 N9 (by k_mem) (news' := (_, listOf (vo ++ [_]).toArray (c' + 1)) :: (_, _) :: (L' + 1, co2) :: news) (fun p hp => .tail _ hp) (apart_set ha) ⟨_, _, rfl, by rw [outs_succ]; exact ints_snoc hvo (fm (by decide)), val_int rfl ?_, rfl⟩ rfl
        rw [fd (by decide), Int.pow_succ, Int.ediv_ediv_of_nonneg (by exact Int.le_of_lt (Int.pow_pos (by decide)))]
      · intro m₁ news₁ h tk hpt4 F N
        (try k_extra "my:my fold")
        obtain ⟨vo, c', rfl, hvo, ⟨tw, e11⟩, e12⟩ := hpt4
        have F := knows2 F e11 e12
        have hol := outs_length W3 40
        generalize hou : outs W3 40 = os at hvo hol
        k_steps
        rename IntsAre _ (List.map _ (rangeKs _ _) ++ _) => hRes
        rename (_ : Nat) < _ ∧ _ ∧ _ ∧ _ ∧ AllLt _ news => hlast
        refine retInts hret (by k_asm) (by k_asm) (.head _) (fun p hp => by k_extra "my:my tail") ?_ (allLt_lt hlast.2.2.2.2)
        rw [← hou, outs_rev] at hRes
        rw [e] at hRes
        exact hRes))) only [↓heldQ_eq]
theorem said_35 : True := by
  k_with "my:call ref" => (k_here; (fail_if_success plain_pass); (with_reducible show wpAny _ _ (call (Value.ref 201) _) _ _ _); refine Stop.intro ?_)
  trivial

theorem part_24 : True := by
  w_top off
  trivial
/-! ## what is due when a packet is written -/
noncomputable def dueW (P : Pk) : Str × List Int :=
  if P.dscp > 63 ∨ P.ecn > 3 ∨ P.flow ≥ 1048576 then (tFld, [])
  else if ∃ h ∈ P.heads, ¬ hdOk h then (tHd, [])
  else @ite _ (¬ PkFits P) (Classical.propDecidable _) (tFits, []) (tNone, octL P)
noncomputable def datW (x : Str × List Int) : Dat := .tuple [.str x.1, .bytes (byteArr x.2)]
noncomputable def topsL : List Int := [340282366920938463463374607431768211456, 340282366920938463463374607431768211456, 256, 256, 64, 4, 1048576]
theorem due_head {P : Pk} {h : Hd} (hfld : ¬ (P.dscp > 63 ∨ P.ecn > 3 ∨ P.flow ≥ 1048576)) (hm : h ∈ P.heads) (hb : ¬ hdOk h) : dueW P = (tHd, []) := by
  unfold dueW; rw [if_neg hfld, if_pos ⟨h, hm, hb⟩]
theorem fits_at {P : Pk} : PkFits P ↔ ∀ j < 7, 0 ≤ (fieldsOf P).getD j 0 ∧ (fieldsOf P).getD j 0 < topsL.getD j 0 := by
  constructor
  · intro hpt0 j hj
    (try k_extra "my:my fold")
    obtain ⟨a, b, c, d, e, f, g⟩ := hpt0
    have := (by decide : ∀ j : Nat, j < 7 → j = 0 ∨ j = 1 ∨ j = 2 ∨ j = 3 ∨ j = 4 ∨ j = 5 ∨ j = 6) j hj
    rcases this with rfl | rfl | rfl | rfl | rfl | rfl | rfl
    · exact a
    · exact b
    · exact c
    · exact d
    · exact e
    · exact f
    · exact g
  · intro h
    exact ⟨h 0 (by decide), h 1 (by decide), h 2 (by decide), h 3 (by decide), h 4 (by decide), h 5 (by decide), h 6 (by decide)⟩
theorem due_fits {P : Pk} (hfld : ¬ (P.dscp > 63 ∨ P.ecn > 3 ∨ P.flow ≥ 1048576)) (hok : ∀ h ∈ P.heads, hdOk h) (hb : ¬ PkFits P) : dueW P = (tFits, []) := by
  unfold dueW; rw [if_neg hfld, if_neg (fun ⟨h, hm, hn⟩ => hn (hok h hm)), if_pos hb]
theorem due_good {P : Pk} (hfld : ¬ (P.dscp > 63 ∨ P.ecn > 3 ∨ P.flow ≥ 1048576)) (hok : ∀ h ∈ P.heads, hdOk h) (hb : PkFits P) : dueW P = (tNone, octL P) := by
  unfold dueW; rw [if_neg hfld, if_neg (fun ⟨h, hm, hn⟩ => hn (hok h hm)), if_neg (fun h => h hb)]
theorem nxt_in {prot : Int} (hp : 0 ≤ prot ∧ prot < 256) : ∀ {hs : List Hd}, HdsFine 0 hs → 0 ≤ nxt prot hs ∧ nxt prot hs < 256
  | [], _ => hp
  | h :: _, f => (f h (.head _)).1
theorem payL_in {prot : Int} (hp : 0 ≤ prot ∧ prot < 256) : ∀ {hs : List Hd}, HdsFine 0 hs → KBa.In (payL prot hs)
  | [], _ => fun _ h => nomatch h
  | h :: r, f => by
    have fr : HdsFine 0 r := fun x hx => f x (.tail _ hx)
    exact List.forall_mem_append.mpr ⟨List.forall_mem_cons.mpr ⟨nxt_in hp fr, (f h (.head _)).2.1⟩, payL_in hp fr⟩
theorem octL_in {P : Pk} (hfit : PkFits P) (hf : HdsFine 0 P.heads) (hd : KBa.In P.data) : KBa.In (octL P) :=
  List.forall_mem_append.mpr ⟨octs_in _ _, List.forall_mem_append.mpr ⟨payL_in hfit.2.2.1 hf, hd⟩⟩
theorem octL_len (P : Pk) : (octL P).length = 40 + ((payL P.prot P.heads).length + P.data.length) := by
  unfold octL; rw [List.length_append, octs_len, List.length_append]
theorem said_36 : True := by
  k_with "my:subscriptTail Name Constant ref int" => (k_here; (fail_if_success plain_pass); (with_reducible rename JoinHere 8 => hJ9); (with_reducible show wpAny _ _ (subscriptTail (PySem.Expr.Name ("body" : Str) _) _ _ _) _ _ _); refine Stop.intro ?_)
  k_with "my:my facts2" => ((case k1 => k_asm); (case k3 => k_asm); (case k5 => k_asm); (case k6 => first | exact rfl | assumption); (case kd => ktr_room); (case ku => ktr_units))
  trivial
inductive WdJ (lf lh ld lt : Addr) (led : List (Addr × Obj)) (G : Nat → Prop) (i : Nat) (m : Str → Option Value) (nx : List (Addr × Obj)) : Prop
  | mk (hnx : nx = led) (e1 : m (Str.ofString "fields") = some (.ref lf)) (e2 : m (Str.ofString "heads") = some (.ref lh)) (e3 : m (Str.ofString "data") = some (.ref ld)) (e4 : m (Str.ofString "tops") = some (.ref lt)) (g : G i) : WdJ lf lh ld lt led G i m nx
theorem law_due_written_c (w : World) (news : List (Addr × Obj)) (P : Pk) (lf lh ld : Addr) (vf vh vd : List Value) (nf nh nd : Nat) (hmf : (lf, listOf vf.toArray nf) ∈ news) (hif : IntsAre vf (fieldsOf P)) (hmh : (lh, listOf vh.toArray nh) ∈ news) (hdh : DatAll news vh (P.heads.map datLd))
    (hmd : (ld, listOf vd.toArray nd) ∈ news) (hid : IntsAre vd P.data) (hn : P.heads.length ≤ 4) (hf : HdsFine 0 P.heads) (hd : P.data.length ≤ 20) (hdi : KBa.In P.data) :
    Called w 208 12 300 [.ref lf, .ref lh, .ref ld] news (fun base => True) (IsDat (datW (dueW P)) news) := by
  refine of_heldQ ?_
  simp (disch := (refine anchorQ ?_; k_dflt (
  have hvh := hdh.length
  rw [List.length_map] at hvh
  have hvsz : vh.toArray.size = P.heads.length := by rw [List.size_toArray, hvh]
  have hl62 : P.heads.length < 2 ^ 62 := by omega
  have hfl : (fieldsOf P).length = 7 := rfl
  k_extra "my:my start"
  rename_i hret
  k_extra "my:my enter"
  rename Fr _ _ _ _ => F0
  rename News _ _ _ _ => N0
  have N1 := put (put (put N0 hmf) (.tail _ hmh)) (.tail _ (.tail _ hmd))
  k_steps
  · rename (63 : Int) < _ => hx
    rw [show dueW P = (tFld, []) from by unfold dueW; rw [if_pos (.inl hx)]] at hret
    exact retAll hret (by k_asm) (by k_asm) (fun p hp => by k_extra "my:my tail") (.tuple (.head _) (.cons (.str _ _) (.cons (.bytes _ _) .nil)))
  · rename (3 : Int) < _ => hx
    rw [show dueW P = (tFld, []) from by unfold dueW; rw [if_pos (.inr (.inl hx))]] at hret
    exact retAll hret (by k_asm) (by k_asm) (fun p hp => by k_extra "my:my tail") (.tuple (.head _) (.cons (.str _ _) (.cons (.bytes _ _) .nil)))
  · rename (1048576 : Int) ≤ _ => hx
    rw [show dueW P = (tFld, []) from by unfold dueW; rw [if_pos (.inr (.inr hx))]] at hret
    exact retAll hret (by k_asm) (by k_asm) (fun p hp => by k_extra "my:my tail") (.tuple (.head _) (.cons (.str _ _) (.cons (.bytes _ _) .nil)))
  rename ¬ (63 : Int) < _ => hx1
  rename ¬ (3 : Int) < _ => hx2
  rename ¬ (1048576 : Int) ≤ _ => hx3
  have hfld : ¬ (P.dscp > 63 ∨ P.ecn > 3 ∨ P.flow ≥ 1048576) := fun h => h.elim hx1 fun h => h.elim hx2 hx3
  rename Fr _ _ _ _ => F1
  rename News _ _ _ _ => N2
  refine for_list rfl F1 N2 (by k_mem : (lh, listOf vh.toArray nh) ∈ _) (WdJ lf lh ld _ _ fun i => ∀ h ∈ P.heads.take i, hdOk h)
    ⟨rfl, rfl, rfl, rfl, rfl, fun _ h => nomatch h⟩ (by rintro i m₁ news₁ ⟨rfl, _⟩; k_mem) ?_ ?_ (by with_unfolding_all passes_own)
  · intro i v m₁ news₁ h tk I oI hv hltI hpt10 ha F N
    (try k_extra "my:my fold")
    obtain ⟨rfl, e1, e2, e3, e4, hok⟩ := hpt10
    obtain ⟨h3, hh3, hD⟩ := heads_ldat hdh hv
    obtain ⟨a2, n2, t2, b2, ws, c2, rfl, ma2, mb2, hws⟩ := datLd_inv hD
    obtain ⟨g1, g2, g3, g4⟩ := hf _ (List.mem_of_getElem? hh3)
    have hb := getD_in g2 (Int.toNat 0)
    have F := knows4 F e1 e2 e3 e4
    have N := put N (p := (a2, ({ cls := .type "tuple", data := .seq [.int h3.1 t2, .ref b2].toArray n2 } : Obj))) (by k_extra "my:my tail")
    have N := put N (p := (b2, listOf ws.toArray c2)) (by k_extra "my:my tail")
    have hj8 : JoinHere 8 := rfl
    k_steps
    · rename decide (h3.2 = []) = true => hnil
      rw [decide_eq_true_eq] at hnil
      rw [due_head hfld (List.mem_of_getElem? hh3) (fun h => h.1 (by rw [hnil]; rfl))] at hret
      exact retAll hret (by k_asm) (by k_asm) (fun p hp => by k_extra "my:my tail") (.tuple (.head _) (.cons (.str _ _) (.cons (.bytes _ _) .nil)))
    rename decide (h3.2 = []) = false => hnil
    rename JoinHere 8 => hj7
    clear hj7
    refine Stop.out ?_
    rw [decide_eq_false_iff_not] at hnil
    have hpos := List.length_pos_iff.mpr hnil
    k_steps
    · rename hsize _ _ ≠ _ => hz
      rw [due_head hfld (List.mem_of_getElem? hh3) (fun h => hz h.2)] at hret
      exact retAll hret (by k_asm) (by k_asm) (fun p hp => by k_extra "my:my tail") (.tuple (.head _) (.cons (.str _ _) (.cons (.bytes _ _) .nil)))
    · rename hsize _ _ = _ => hz
      rename Fr _ _ _ _ => F9
      rename News _ _ _ _ => N9
      refine TurnEnd.intro F9 N9 (by k_mem) (fun p hp => by k_extra "my:my tail") ha ⟨rfl, rfl, rfl, rfl, rfl, fun x hx => ?_⟩ rfl
      rw [List.take_add_one, hh3] at hx
      rcases List.mem_append.mp hx with hx | hx
      · exact hok x hx
      · rw [List.mem_singleton.mp hx]
        exact ⟨by omega, hz⟩
  · intro m₁ news₁ h tk hpt4 F N
    (try k_extra "my:my fold")
    obtain ⟨rfl, e1, e2, e3, e4, hok⟩ := hpt4
    have F := knows4 F e1 e2 e3 e4
    rw [hvh, List.take_length] at hok
    k_steps
    rename IsRange _ _ _ _ _ _ _ _ => hr2
    rename Fr _ _ _ _ => F6
    rename News _ _ _ _ => N6
    refine for_range rfl hr2 (n := 7) rfl (by decide) F6 N6
      (WdJ lf lh ld _ _ fun i => ∀ j < i, 0 ≤ (fieldsOf P).getD j 0 ∧ (fieldsOf P).getD j 0 < topsL.getD j 0)
      ⟨rfl, rfl, rfl, rfl, rfl, fun _ h => absurd h (Nat.not_lt_zero _)⟩ ?_ ?_ (by with_unfolding_all passes_own) (by intro _ _; rfl)
    · intro i t m₁ news₁ h tk I oI hi' hltI hpt10 ha F N
      (try k_extra "my:my fold")
      obtain ⟨rfl, e1, e2, e3, e4, hin⟩ := hpt10
      have F := knows4 F e1 e2 e3 e4
      k_steps
      · rename List.getD _ _ _ < 0 => hz
        rw [due_fits hfld hok (fun h => absurd (fits_at.mp h i hi').1 (Int.not_le.mpr hz))] at hret
        exact retAll hret (by k_asm) (by k_asm) (fun p hp => by k_extra "my:my tail") (.tuple (.head _) (.cons (.str _ _) (.cons (.bytes _ _) .nil)))
      · rename List.getD _ _ _ ≤ List.getD _ _ _ => hz
        rw [due_fits hfld hok (fun h => absurd (fits_at.mp h i hi').2 (Int.not_lt.mpr hz))] at hret
        exact retAll hret (by k_asm) (by k_asm) (fun p hp => by k_extra "my:my tail") (.tuple (.head _) (.cons (.str _ _) (.cons (.bytes _ _) .nil)))
      · rename ¬ List.getD _ _ _ < 0 => hz1
        rename ¬ List.getD _ _ _ ≤ List.getD _ _ _ => hz2
        rename Fr _ _ _ _ => F9
        rename News _ _ _ _ => N9
        refine TurnEnd.intro F9 N9 (by k_mem) (fun p hp => by k_extra "my:my tail") ha ⟨rfl, rfl, rfl, rfl, rfl, fun j hj => ?_⟩ rfl
        by_cases hji : j < i
        · exact hin j hji
        · obtain rfl : j = i := by omega
          exact ⟨Int.not_lt.mp hz1, Int.not_le.mp hz2⟩
    · intro m₁ news₁ h tk hpt4 F N
      (try k_extra "my:my fold")
      obtain ⟨rfl, e1, e2, e3, e4, hin⟩ := hpt4
      have F := knows4 F e1 e2 e3 e4
      k_steps
      refine Stop.out ?_
      have hfit : PkFits P := fits_at.mpr hin
      rename Fr _ _ _ _ => F7
      rename News _ _ _ _ => N7
      k_dflt (refine' Called.use ?k1 F7 ?k3 N7 ?k5 ?k6 (law_octets_c _ _ P lf lh ld vf vh vd nf nh nd (by k_mem) hif (by k_mem) (hdh.mono fun p hp => by k_extra "my:my tail") (by k_mem) hid hn hf hd hdi hfit) trivial ?kd ?ku ?_)
      k_extra "my:my facts2"
      intro v9 tl9 h9 tk9 F9 N9 hpt6
      (try k_extra "my:my fold")
      obtain ⟨l9, vs9, n9, rfl, rfl, i9, lt9⟩ := hpt6
      (try dsimp only)
      (try dsimp +zetaDelta only at N9)
      simp only [List.cons_append, List.nil_append] at N9
      (try k_lt lt9)
      k_steps
      refine Stop.out ?_
      rename Fr _ _ _ _ => F5
      rename News _ _ _ _ => N5
      refine KBa.make_K F5 N5 rfl ⟨_, (N5 _ (.head _)).1, rfl, _, rfl⟩ i9 (octL_in hfit hf hdi) (by rw [octL_len]; have := payL_len P.prot hf; omega) fun h8 t8 k8 F8 N8 hin8 => ?_
      k_steps
      rw [due_good hfld hok hfit] at hret
      exact retAll hret (by k_asm) (by k_asm) (fun p hp => by k_extra "my:my tail") (.tuple (.head _) (.cons (.str _ _) (.cons (.bytes _ _) .nil)))))) only [↓heldQ_eq]
theorem said_37 : True := by
  k_with "my:call ref" => (k_here; (fail_if_success plain_pass); (with_reducible show wpAny _ _ (call (Value.ref 208) _) _ _ _); refine Stop.intro ?_)
  trivial

theorem part_25 : True := by
  w_top off
  trivial
/-! ## what is due when a packet is looked at -/
theorem walk_bodies : ∀ (kind : Int) (ns : List Int) (first : Bool), (∀ k ∈ ns, 0 ≤ k ∧ k < 256) → ∀ h ∈ (walk kind ns first).2.1, KBa.In h.2 ∧ (h.1 = 44 → 7 ≤ h.2.length) ∧ h.2.length ≤ ns.length := by
  intro kind ns
  induction hn : ns.length using Nat.strongRecOn generalizing kind ns with
  | _ n ih =>
  intro f hk
  subst hn
  by_cases hin : hsize kind 0 = 0
  · rw [walk_stop hin]; exact fun _ h => nomatch h
  by_cases h2 : ns.length < 2
  · rw [walk_short hin (.inl h2)]; exact fun _ h => nomatch h
  by_cases hw : (ns.length : Int) < hsize kind (ns.getD 1 0)
  · rw [walk_short hin (.inr hw)]; exact fun _ h => nomatch h
  have h0 := (getD_in hk 1).1
  have h8 := hsize_pos hin h0
  by_cases hf : kind = 0 ∧ f = false
  · rw [walk_hop hin h2 hw h0 hf]; exact fun _ h => nomatch h
  rw [walk_pos hin h2 hw h0 hf]
  have one : KBa.In ((ns.take (hsize kind (ns.getD 1 0)).toNat).drop 1) ∧ (kind = 44 → 7 ≤ ((ns.take (hsize kind (ns.getD 1 0)).toNat).drop 1).length) ∧ ((ns.take (hsize kind (ns.getD 1 0)).toNat).drop 1).length ≤ ns.length :=
    ⟨fun k h => hk k (List.mem_of_mem_take (List.mem_of_mem_drop h)), fun _ => by rw [List.length_drop, List.length_take]; omega, by rw [List.length_drop, List.length_take]; omega⟩
  split
  · intro h hm; rw [List.mem_singleton.mp hm]; exact one
  · intro h hm
    rcases List.mem_cons.mp hm with rfl | hm
    · exact one
    · have := ih (ns.drop (hsize kind (ns.getD 1 0)).toNat).length (by rw [List.length_drop]; omega) (ns.getD 0 0) _ rfl false (fun k h => hk k (List.mem_of_mem_drop h)) h hm
      rw [List.length_drop] at this
      exact ⟨this.1, this.2.1, by omega⟩
theorem walk_rest {kind : Int} {ns : List Int} {f : Bool} (hk : ∀ k ∈ ns, 0 ≤ k ∧ k < 256) : (walk kind ns f).2.2.2.length ≤ ns.length := by
  induction hn : ns.length using Nat.strongRecOn generalizing kind ns f with
  | _ n ih =>
  subst hn
  by_cases hin : hsize kind 0 = 0
  · rw [walk_stop hin]; exact Nat.le_refl _
  by_cases h2 : ns.length < 2
  · rw [walk_short hin (.inl h2)]; exact Nat.zero_le _
  by_cases hw : (ns.length : Int) < hsize kind (ns.getD 1 0)
  · rw [walk_short hin (.inr hw)]; exact Nat.zero_le _
  have h0 := (getD_in hk 1).1
  have h8 := hsize_pos hin h0
  by_cases hf : kind = 0 ∧ f = false
  · rw [walk_hop hin h2 hw h0 hf]; exact Nat.zero_le _
  rw [walk_pos hin h2 hw h0 hf]
  split
  · show (ns.drop _).length ≤ _
    rw [List.length_drop]; omega
  · have := ih (ns.drop (hsize kind (ns.getD 1 0)).toNat).length (by rw [List.length_drop]; omega) (kind := ns.getD 0 0) (f := false) (fun k h => hk k (List.mem_of_mem_drop h)) rfl
    rw [List.length_drop] at this
    show (walk _ _ _).2.2.2.length ≤ _
    omega
theorem cut_rest (ks : List Int) : cut ks 40 ks.length = ks.drop 40 := by
  unfold cut; rw [Int.toNat_natCast, List.take_length]; rfl
inductive WordJ (l dl : Addr) (tp : Tok) (R : Wk) (led : List (Addr × Obj)) (i : Nat) (m : Str → Option Value) (nx : List (Addr × Obj)) : Prop
  | mk (hnx : nx = led) (e1 : m (Str.ofString "octets") = some (.ref l)) (e2 : m (Str.ofString "data") = some (.ref dl)) (e3 : m (Str.ofString "protocol") = some (.int R.2.2.1 tp)) (wd : Int) (t : Tok) (e4 : m (Str.ofString "word") = some (.int wd t)) (hwd : wd = lastWord 0 (R.2.1.take i)) (hwb : 0 ≤ wd ∧ wd < 65536) : WordJ l dl tp R led i m nx
theorem law_due_look_c (w : World) (news : List (Addr × Obj)) (l : Addr) (vs : List Value) (n : Nat) (ks : List Int) (hm : (l, listOf vs.toArray n) ∈ news) (hi : IntsAre vs ks) (hk : ∀ k ∈ ks, 0 ≤ k ∧ k < 256) (hlen : ks.length ≤ 240) :
    Called w 241 80 3500 [.ref l] news (fun base => True) (IsDat (datLook (look ks)) news) := by
  refine of_heldQ ?_
  simp (disch := (refine anchorQ ?_; k_dflt (
  have hvl := hi.length
  have hvsz : vs.toArray.size = ks.length := by rw [List.size_toArray, hvl]
  have hl62 : ks.length < 2 ^ 62 := by omega
  k_extra "my:my start"
  rename_i hret
  k_extra "my:my enter"
  rename Fr _ _ _ _ => F0
  rename News _ _ _ _ => N0
  have N1 := put N0 hm
  have hb0 := getD_in hk (Int.toNat 0)
  k_steps
  · rw [show look ks = none from by unfold look; rw [if_pos (.inl (by omega))]] at hret
    exact ret0 hret (by k_asm) (by k_asm) (fun p hp => by k_extra "my:my tail") .none
  · rename Int.fdiv _ _ ≠ _ => h6
    rw [fd (by decide)] at h6
    rw [show look ks = none from by unfold look; rw [if_pos (.inr h6)]] at hret
    exact ret0 hret (by k_asm) (by k_asm) (fun p hp => by k_extra "my:my tail") .none
  rename Int.fdiv _ _ = _ => h6
  rename ¬ (ks.length : Int) < 40 => h40
  rw [fd (by decide)] at h6
  refine Stop.out ?_
  rename IntsAre _ (List.drop _ _) => hI9
  rename Fr _ _ _ _ => F7
  rename News _ _ _ _ => N7
  k_dflt (refine' Called.use ?k1 F7 ?k3 N7 ?k5 ?k6 (law_walk_c w 30 _ _ _ _ _ _ _ _ (List.Mem.head _) hI9 (fun k h => hk k (List.mem_of_mem_drop h)) (by rw [List.length_drop]; omega) (by rw [List.length_drop]; omega)) trivial ?kd ?ku ?_)
  k_extra "my:my facts2"
  have hbod := walk_bodies (ks.getD (Int.toNat 6) 0) (ks.drop (Int.toNat 40)) true fun k h => hk k (List.mem_of_mem_drop h)
  have hcnt := walk_count (ks.getD (Int.toNat 6) 0) (ks.drop (Int.toNat 40)) true fun k h => hk k (List.mem_of_mem_drop h)
  have hk40 : ∀ k ∈ ks.drop (Int.toNat 40), 0 ≤ k ∧ k < 256 := fun k h => hk k (List.mem_of_mem_drop h)
  generalize hR : walk (ks.getD (Int.toNat 6) 0) (ks.drop (Int.toNat 40)) true = R at *
  have hlook : look ks = if R.1 ≠ tNone then none else some (R.2.2.1, (ks.length : Int) - R.2.2.2.length, lastWord 0 R.2.1 / 8 * 8, decide (lastWord 0 R.2.1 % 2 = 1)) := by
    rw [← hR]; unfold look; rw [if_neg (fun h => h.elim (by omega) (fun h => h h6)), cut_rest]; rfl
  intro v9 tl9 h9 tk9 F9 N9 hpt6
  (try k_extra "my:my fold")
  obtain ⟨p9, hl9, vs9, n9, dl9, ds9, n8, tw9, tp9, rfl, mp, mh, hda9, md, hds9⟩ := hpt6
  (try dsimp only)
  rw [List.length_drop] at hcnt hbod
  have hv9 := hda9.length
  rw [List.length_map] at hv9
  have hd9 := hds9.length
  have N9 := put (put (put N9 md) (.tail _ (List.mem_append_left _ mh))) (.tail _ (.tail _ (List.mem_append_left _ mp)))
  k_steps
  · rename (R.1 != _) = true => hy
    rw [hlook, if_pos (show R.1 ≠ tNone from bne_iff_ne.mp hy)] at hret
    exact ret0 hret (by k_asm) (by k_asm) (fun p hp => by k_extra "my:my tail") .none
  rename (R.1 != _) = false => hy
  have hy : R.1 = tNone := bne_eq_false_iff_eq.mp hy
  rw [hy, if_neg (fun h => h rfl)] at hlook
  rename Fr _ _ _ _ => F1
  rename News _ _ _ _ => N2
  refine for_list rfl F1 N2 (by k_mem : (hl9, listOf vs9.toArray n9) ∈ _) (WordJ l dl9 tp9 R _)
    ⟨rfl, rfl, rfl, rfl, 0, _, rfl, rfl, by omega⟩ (by rintro i m₁ news₁ ⟨rfl, _⟩; k_mem) ?_ ?_ (by with_unfolding_all passes_own)
  · intro i v m₁ news₁ h tk I oI hv hltI hpt10 ha F N
    (try k_extra "my:my fold")
    obtain ⟨rfl, e1, e2, e3, wd, twd, e4, hwd, hwb⟩ := hpt10
    obtain ⟨hd', a', n', ti, tb, hhi, rfl, ma⟩ := heads_at hda9 hv
    obtain ⟨g1, g2, g3⟩ := hbod _ (List.mem_of_getElem? hhi)
    have hB := KBa.ints_make g1
    have F := knows4 F e1 e2 e3 e4
    have N := put N (p := (a', ({ cls := .type "tuple", data := .seq [.int hd'.1 ti, .bytes (byteArr hd'.2) tb].toArray n' } : Obj))) (.tail _ (.tail _ (.tail _ (.tail _ (List.mem_append_left _ ma)))))
    have x1 := getD_in g1 (Int.toNat 1)
    have x2 := getD_in g1 (Int.toNat 2)
    have hln : hd'.2.length < 70000 := by omega
    have hnext : lastWord 0 (R.2.1.take (i + 1)) = if hd'.1 = 44 then 256 * hd'.2.getD 1 0 + hd'.2.getD 2 0 else wd := by
      rw [List.take_add_one, hhi, hwd]; exact lastWord_snoc 0 _ hd'
    k_steps
    · rename hd'.1 = 44 => h44
      rename Fr _ _ _ _ => F8
      rename News _ _ _ _ => N8
      refine TurnEnd.intro F8 N8 (by k_mem) (fun p hp => by k_extra "my:my tail") ha ⟨rfl, rfl, rfl, rfl, _, _, rfl, by rw [hnext, if_pos h44]; rfl, ?_⟩ rfl
      constructor <;> omega
    · rename hd'.1 ≠ 44 => h44
      rename Fr _ _ _ _ => F8
      rename News _ _ _ _ => N8
      exact TurnEnd.intro F8 N8 (by k_mem) (fun p hp => by k_extra "my:my tail") ha ⟨rfl, rfl, rfl, rfl, _, _, rfl, by rw [hnext, if_neg h44], hwb⟩ rfl
  · intro m₁ news₁ h tk hpt4 F N
    (try k_extra "my:my fold")
    obtain ⟨rfl, e1, e2, e3, wd, twd, e4, hwd, hwb⟩ := hpt4
    have F := knows4 F e1 e2 e3 e4
    rw [hv9, List.take_length] at hwd
    have N := put N (p := (l, listOf vs.toArray n)) (by k_extra "my:my tail")
    have hdsz : ds9.toArray.size = R.2.2.2.length := by rw [List.size_toArray, hd9]
    have hdl := walk_rest (kind := ks.getD (Int.toNat 6) 0) (f := true) hk40
    rw [hR, List.length_drop] at hdl
    k_steps
    have e : datLook (look ks) = .tuple [.int R.2.2.1, .int ((ks.length : Int) - (R.2.2.2.length : Nat)), .int (wd.fdiv 8 * 8), .bool (wd.fmod 2 == 1)] := by
      rw [hlook, ← hwd, fd (by decide), fm (by decide)]
      rfl
    rw [e] at hret
    exact retAll hret (by k_asm) (by k_asm) (fun p hp => by k_extra "my:my tail") (.tuple (.head _) (.cons (.int _ _) (.cons (.int _ _) (.cons (.int _ _) (.cons (.bool _) .nil)))))))) only [↓heldQ_eq]
theorem said_38 : True := by
  k_with "my:call ref" => (k_here; (fail_if_success plain_pass); (with_reducible show wpAny _ _ (call (Value.ref 241) _) _ _ _); refine Stop.intro ?_)
  trivial

theorem part_26 : True := by
  w_top off
  trivial
/-! ## the plain law -/
theorem octs_snoc (x : Int) (n : Nat) : octs x (n + 1) = octs (x / 256) n ++ [x % 256] := by
  unfold octs
  rw [List.range_succ, List.map_append]
  congr 1
  · refine List.map_congr_left fun p hp => ?_
    have hp := List.mem_range.mp hp
    have e : n + 1 - 1 - p = (n - 1 - p) + 1 := by omega
    rw [e, Int.pow_succ, Int.mul_comm, Int.ediv_ediv_of_nonneg (by decide)]
  · simp
theorem octs_app : ∀ (n m : Nat) (x y : Int), 0 ≤ y → y < 256 ^ n → octs (x * 256 ^ n + y) (m + n) = octs x m ++ octs y n
  | 0, m, x, y, h0, h1 => by
    have : y = 0 := by simp at h1; omega
    subst this
    simp [octs]
  | n + 1, m, x, y, h0, h1 => by
    rw [← Nat.add_assoc, octs_snoc, octs_snoc y n, ← List.append_assoc]
    rw [Int.pow_succ] at h1
    have e1 : (x * 256 ^ (n + 1) + y) / 256 = x * 256 ^ n + y / 256 := by
      rw [Int.pow_succ, ← Int.mul_assoc, Int.add_comm, Int.add_mul_ediv_right _ _ (by decide), Int.add_comm]
    have e2 : (x * 256 ^ (n + 1) + y) % 256 = y % 256 := by
      rw [Int.pow_succ, ← Int.mul_assoc, Int.add_comm, Int.add_mul_emod_self_right]
    rw [e1, e2, octs_app n m x (y / 256) (by omega) (by omega)]
theorem whole_nil : whole [] = 0 := rfl
theorem octs_whole (ks : List Int) (hk : ∀ k ∈ ks, 0 ≤ k ∧ k < 256) : octs (whole ks) ks.length = ks := by
  suffices h : ∀ n, ∀ ks : List Int, ks.length = n → (∀ k ∈ ks, 0 ≤ k ∧ k < 256) → octs (whole ks) n = ks from h _ ks rfl hk
  clear hk ks
  intro n
  induction n with
  | zero => intro ks hl _; rw [List.eq_nil_of_length_eq_zero hl]; rfl
  | succ n ih =>
    intro ks hl hk
    rcases List.eq_nil_or_concat ks with rfl | ⟨l, x, rfl⟩
    · cases hl
    · rw [List.concat_eq_append] at *
      have hx := hk x (by simp)
      rw [whole_snoc, octs_snoc, show (256 * whole l + x) / 256 = whole l from by omega, show (256 * whole l + x) % 256 = x from by omega, ih l (by simpa using hl) fun k h => hk k (by simp [h])]
theorem whole_app (a : List Int) : ∀ b : List Int, whole (a ++ b) = whole a * 256 ^ b.length + whole b := by
  suffices h : ∀ n, ∀ b : List Int, b.length = n → whole (a ++ b) = whole a * 256 ^ n + whole b from fun b => h _ b rfl
  intro n
  induction n with
  | zero => intro b hl; rw [List.eq_nil_of_length_eq_zero hl]; simp [whole_nil]
  | succ n ih =>
    intro b hl
    rcases List.eq_nil_or_concat b with rfl | ⟨l, x, rfl⟩
    · cases hl
    · rw [List.concat_eq_append] at *
      rw [← List.append_assoc, whole_snoc, whole_snoc, ih l (by simpa using hl), Int.pow_succ, Int.mul_add, ← Int.mul_assoc, Int.mul_comm 256 (whole a), Int.mul_assoc (whole a), Int.mul_comm 256 (256 ^ n)]
      omega

/-- a piece of the great number of the first octets -/
theorem whole_piece (ks : List Int) (hk : ∀ k ∈ ks, 0 ≤ k ∧ k < 256) (a b : Nat) (hab : a ≤ b) (hb : b ≤ 40) (hl : 40 ≤ ks.length) :
    whole (ks.take 40) / 256 ^ (40 - b) % 256 ^ (b - a) = whole (cut ks a b) := by
  have e1 : ks.take 40 = (ks.take a ++ cut ks a b) ++ cut ks b 40 := by
    show ks.take 40 = (ks.take a ++ (ks.take (Int.toNat b)).drop (Int.toNat a)) ++ (ks.take 40).drop (Int.toNat b)
    simp only [Int.toNat_natCast]
    have h1 : ks.take a ++ (ks.take b).drop a = ks.take b := by
      have := List.take_append_drop a (ks.take b)
      rwa [List.take_take, Nat.min_eq_left hab] at this
    have h2 : ks.take b ++ (ks.take 40).drop b = ks.take 40 := by
      have := List.take_append_drop b (ks.take 40)
      rwa [List.take_take, Nat.min_eq_left hb] at this
    rw [h1, h2]
  have l1 : (cut ks a b).length = b - a := by have := cut_length (ks := ks) (at_ := a) (e := b) (by omega) (by omega) (by omega); omega
  have l2 : (cut ks b 40).length = 40 - b := by have := cut_length (ks := ks) (at_ := b) (e := 40) (by omega) (by omega) (by omega); omega
  have b1 := whole_bound _ (cut_in hk a b)
  have b2 := whole_bound _ (cut_in hk b 40)
  rw [l1] at b1
  rw [l2] at b2
  rw [e1, whole_app, whole_app, l1, l2]
  have p1 : (0 : Int) < 256 ^ (40 - b) := Int.pow_pos (by decide)
  have p2 : (0 : Int) < 256 ^ (b - a) := Int.pow_pos (by decide)
  generalize (256 : Int) ^ (40 - b) = X at *
  generalize (256 : Int) ^ (b - a) = Y at *
  rw [Int.add_comm, Int.add_mul_ediv_right _ _ (Int.ne_of_gt p1), Int.ediv_eq_zero_of_lt b2.1 b2.2, Int.zero_add, Int.add_comm, Int.add_mul_emod_self_right, Int.emod_eq_of_lt b1.1 b1.2]
theorem whole_top (ks : List Int) (hk : ∀ k ∈ ks, 0 ≤ k ∧ k < 256) (hl : 40 ≤ ks.length) : whole (ks.take 40) / 2 ^ 288 = whole (cut ks 0 4) := by
  have := whole_piece ks hk 0 4 (by decide) (by decide) hl
  have b1 := whole_bound _ (cut_in hk 0 4)
  have b0 := whole_bound _ (fun k h => hk k (List.mem_of_mem_take (i := 40) h))
  rw [List.length_take, Nat.min_eq_left hl] at b0
  rw [show (2 : Int) ^ 288 = 256 ^ (40 - 4) from by decide +kernel]
  have h : whole (ks.take 40) / 256 ^ (40 - 4) < 256 ^ (4 - 0) := by
    refine Int.ediv_lt_of_lt_mul (Int.pow_pos (by decide)) ?_
    rw [show (256 : Int) ^ (4 - 0) * 256 ^ (40 - 4) = 256 ^ 40 from by decide +kernel]
    exact b0.2
  show _ = whole (cut ks (0 : Nat) (4 : Nat))
  rw [← this, Int.emod_eq_of_lt (Int.ediv_nonneg b0.1 (Int.le_of_lt (Int.pow_pos (by decide)))) h]
theorem whole_one (ks : List Int) (i : Nat) (hi : i < ks.length) : whole (cut ks i (i + 1 : Nat)) = ks.getD i 0 := by
  have e : cut ks i (i + 1 : Nat) = [ks.getD i 0] := by
    unfold cut
    rw [Int.toNat_natCast, Int.toNat_natCast, List.drop_take, Nat.add_sub_cancel_left, List.drop_eq_getElem_cons hi, List.take_succ_cons, List.take_zero, getD_lt hi]
  rw [e]
  simp [whole]

theorem rest_eq {rest : List Int} {n : Nat} (h1 : 1 ≤ n) (h2 : n ≤ rest.length) : rest = (rest.getD 0 0 :: (rest.take n).drop 1) ++ rest.drop n := by
  have e : rest.take n = rest.getD 0 0 :: (rest.take n).drop 1 := by
    rw [getD_lt (by omega)]
    have hl : 0 < (rest.take n).length := by rw [List.length_take]; omega
    have := List.drop_eq_getElem_cons hl
    rw [List.drop_zero] at this
    rw [List.getElem_take] at this
    exact this
  rw [← e, List.take_append_drop]
theorem body_first {rest : List Int} {n : Nat} (h1 : 2 ≤ n) : ((rest.take n).drop 1).getD 0 0 = rest.getD 1 0 := by
  simp only [List.getD, List.getElem?_drop]
  rw [List.getElem?_take_of_lt (by omega)]
theorem walk_heads : ∀ (kind : Int) (rest : List Int) (f : Bool), (∀ k ∈ rest, 0 ≤ k ∧ k < 256) → (0 ≤ kind ∧ kind < 256) → (walk kind rest f).1 = tNone →
    ∃ o, headsOf (walk kind rest f).2.2.1 (walk kind rest f).2.1 = .ok o ∧ o ++ (walk kind rest f).2.2.2 = rest ∧ nxt (walk kind rest f).2.2.1 (walk kind rest f).2.1 = kind ∧
      (0 ≤ (walk kind rest f).2.2.1 ∧ (walk kind rest f).2.2.1 < 256) ∧ (∀ h ∈ (walk kind rest f).2.1, ∀ k ∈ h.2, 0 ≤ k ∧ k < 256) := by
  intro kind rest
  induction hn : rest.length using Nat.strongRecOn generalizing kind rest with
  | _ n ih =>
  intro f hk hkd
  rw [walk]
  by_cases h1 : hsize kind 0 = 0
  · rw [if_pos h1]; exact fun _ => ⟨[], rfl, rfl, rfl, hkd, fun _ h => nomatch h⟩
  rw [if_neg h1]
  have hg := getD_in hk 1
  have h8 := hsize_pos h1 hg.1
  by_cases h2 : rest.length < 2 ∨ (rest.length : Int) < hsize kind (rest.getD 1 0) ∨ hsize kind (rest.getD 1 0) ≤ 0
  · rw [if_pos h2]; exact fun h => absurd h tTrunc_ne
  rw [if_neg h2]
  by_cases h3 : kind = 0 ∧ f = false
  · rw [if_pos h3]; exact fun h => absurd h tHop_ne
  rw [if_neg h3]
  generalize hsz : hsize kind (rest.getD 1 0) = z at *
  have hz1 : z.toNat ≤ rest.length := by omega
  have hbl : ((rest.take z.toNat).drop 1).length = z.toNat - 1 := by rw [List.length_drop, List.length_take]; omega
  have hok : hdOk (kind, (rest.take z.toNat).drop 1) := by
    refine ⟨by show ((rest.take z.toNat).drop 1).length ≠ 0; omega, ?_⟩
    show hsize kind (((rest.take z.toNat).drop 1).getD 0 0) = (((rest.take z.toNat).drop 1).length : Int) + 1
    rw [body_first (by omega), hsz, hbl]; omega
  have hre := rest_eq (rest := rest) (n := z.toNat) (by omega) hz1
  have hb : ∀ k ∈ (rest.take z.toNat).drop 1, 0 ≤ k ∧ k < 256 := fun k h => hk k (List.mem_of_mem_take (List.mem_of_mem_drop h))
  by_cases h4 : kind = 44 ∧ 256 * rest.getD 2 0 + rest.getD 3 0 > 7
  · rw [if_pos h4]
    intro _
    refine ⟨rest.getD 0 0 :: (rest.take z.toNat).drop 1, ?_, hre.symm, rfl, getD_in hk 0, fun h hm => ?_⟩
    · show headsOf (rest.getD 0 0) [(kind, (rest.take z.toNat).drop 1)] = _
      rw [headsOf, if_neg (fun h => h hok), if_neg (fun h => h (getD_in hk 0))]
      simp [headsOf, cat, nxt]
    · rw [List.mem_singleton.mp hm]; exact hb
  · rw [if_neg h4]
    intro hw
    have hr : ∀ k ∈ rest.drop z.toNat, 0 ≤ k ∧ k < 256 := fun k h => hk k (List.mem_of_mem_drop h)
    obtain ⟨o, g1, g2, g3, g4, g5⟩ := ih (rest.drop z.toNat).length (by rw [List.length_drop]; omega) (rest.getD 0 0) (rest.drop z.toNat) rfl false hr (getD_in hk 0) hw
    generalize walk (rest.getD 0 0) (rest.drop z.toNat) false = R at *
    refine ⟨rest.getD 0 0 :: (rest.take z.toNat).drop 1 ++ o, ?_, ?_, rfl, g4, fun h hm => ?_⟩
    · show headsOf R.2.2.1 ((kind, (rest.take z.toNat).drop 1) :: R.2.1) = _
      rw [headsOf, if_neg (fun h => h hok), g3, if_neg (fun h => h (getD_in hk 0)), g1]
      rfl
    · show (_ ++ o) ++ R.2.2.2 = rest
      rw [List.append_assoc, g2, ← hre]
    · rcases List.mem_cons.mp hm with rfl | hm
      · exact hb
      · exact g5 h hm

/-- what was read may be written, and gives the octets cut at the payload length -/
theorem read_write {ks : List Int} {P : Pk} (hk : ∀ k ∈ ks, 0 ≤ k ∧ k < 256) (hlen : ks.length < 65000) (h : readOf ks = .ok P) :
    writeOf P = .ok (ks.take (40 + whole (cut ks 4 6)).toNat) ∧ PkOk P := by
  unfold readOf at h
  by_cases h1 : ks.length < 40
  · rw [if_pos h1] at h; cases h
  rw [if_neg h1] at h
  by_cases h2 : whole (cut ks 0 4) / 2 ^ 28 ≠ 6
  · rw [if_pos h2] at h; cases h
  rw [if_neg h2] at h
  by_cases h3 : 40 + whole (cut ks 4 6) > ks.length
  · rw [if_pos h3] at h; cases h
  rw [if_neg h3] at h
  obtain ⟨b1, b2, b3⟩ := whole_cut hk 2 (a := 4) (e := 6) (by decide) (by decide) (by omega) rfl
  obtain ⟨a1, a2, a3⟩ := whole_cut hk 4 (a := 0) (e := 4) (by decide) (by decide) (by omega) rfl
  obtain ⟨c1, c2, c3⟩ := whole_cut hk 16 (a := 8) (e := 24) (by decide) (by decide) (by omega) rfl
  obtain ⟨d1, d2, d3⟩ := whole_cut hk 16 (a := 24) (e := 40) (by decide) (by decide) (by omega) rfl
  have hw := walk_heads (ks.getD 6 0) (cut ks 40 (40 + whole (cut ks 4 6))) true (cut_in hk _ _) (getD_in hk 6)
  have hcl := cut_length (ks := ks) (at_ := 40) (e := 40 + whole (cut ks 4 6)) (by decide) (by omega) (by omega)
  generalize hE : 40 + whole (cut ks 4 6) = e at *
  generalize hR : walk (ks.getD 6 0) (cut ks 40 e) true = R at *
  dsimp only at h
  by_cases h4 : R.1 ≠ tNone
  · rw [if_pos h4] at h; cases h
  rw [if_neg h4] at h
  obtain ⟨o, g1, g2, g3, g4, g5⟩ := hw (Decidable.not_not.mp h4)
  cases h
  have ho := headsOf_ok g1 g5
  have hsum : o.length + R.2.2.2.length = (cut ks 40 e).length := by rw [← g2, List.length_append]
  have h7 := getD_in hk 7
  constructor
  · unfold writeOf
    dsimp only
    rw [if_neg (by omega), g1]
    dsimp only
    rw [if_neg (by omega), g3, if_neg (by have := getD_in hk 6; omega)]
    refine congrArg _ ?_
    have p0 : ((6 * 64 + whole (cut ks 0 4) / 2 ^ 22 % 64) * 4 + whole (cut ks 0 4) / 2 ^ 20 % 4) * 2 ^ 20 + whole (cut ks 0 4) % 2 ^ 20 = whole (cut ks 0 4) := by omega
    have p1 : ((o.length + R.2.2.2.length : Nat) : Int) = whole (cut ks 4 6) := by omega
    have q0 : octs (whole (cut ks 0 4)) 4 = cut ks 0 4 := by have := octs_whole _ (cut_in hk 0 4); rwa [a3] at this
    have q1 : octs (whole (cut ks 4 6)) 2 = cut ks 4 6 := by have := octs_whole _ (cut_in hk 4 6); rwa [b3] at this
    have q2 : octs (whole (cut ks 8 24)) 16 = cut ks 8 24 := by have := octs_whole _ (cut_in hk 8 24); rwa [c3] at this
    have q3 : octs (whole (cut ks 24 40)) 16 = cut ks 24 40 := by have := octs_whole _ (cut_in hk 24 40); rwa [d3] at this
    have one : ∀ i : Nat, i < ks.length → octs (ks.getD i 0) 1 = cut ks i (i + 1 : Nat) := fun i hi => by
      have l1 : (cut ks i (i + 1 : Nat)).length = 1 := by have := cut_length (ks := ks) (at_ := i) (e := (i + 1 : Nat)) (by omega) (by omega) (by omega); omega
      have := octs_whole _ (cut_in hk i (i + 1 : Nat))
      rwa [l1, whole_one ks i hi] at this
    rw [p0, p1, q0, q1, q2, q3, one 6 (by omega), one 7 (by omega), g2]
    have join : ∀ {a b c : Int}, 0 ≤ a → a ≤ b → b ≤ c → c ≤ ks.length → cut ks a b ++ cut ks b c = cut ks a c := fun {a b c} x0 x1 x2 x3 => by
      have t1 := cut_take (ks := ks) (at_ := a) (e := c) x0 (b - a) (by omega) (by omega)
      have t2 := cut_drop (ks := ks) (at_ := a) (e := c) x0 (b - a) (by omega)
      rw [show a + (b - a) = b from by omega] at t1 t2
      rw [← t1, ← t2, List.take_append_drop]
    show cut ks 0 4 ++ cut ks 4 6 ++ (cut ks 6 7 ++ cut ks 7 8) ++ cut ks 8 24 ++ cut ks 24 40 ++ cut ks 40 e = _
    have h40 : (40 : Int) ≤ e ∧ e ≤ ks.length := by omega
    have hl : ∀ x : Int, x ≤ 40 → x ≤ ks.length := fun x h => Int.le_trans h (Int.le_trans h40.1 h40.2)
    rw [join (by decide) (by decide) (by decide) (hl _ (by decide)), join (by decide) (by decide) (by decide) (hl _ (by decide)), join (by decide) (by decide) (by decide) (hl _ (by decide)), join (by decide) (by decide) (by decide) (hl _ (by decide)), join (by decide) (by decide) (by decide) (hl _ (by decide)), join (by decide) (by decide) h40.1 h40.2]
    unfold cut
    simp
  · refine ⟨g5, by rw [← ho.1]; omega, fun k h => cut_in hk 40 e k (by rw [← g2]; exact List.mem_append_right _ h), by show R.2.2.2.length ≤ 70000; omega, ?_, ?_⟩
    · show Builtin.Int.intBits (whole (cut ks 0 4) / 2 ^ 22 % 64) ≤ 1048600
      refine Nat.le_trans ((intBits_le_iff (m := 6)).mpr ?_) (by decide)
      omega
    · show Builtin.Int.intBits (whole (cut ks 0 4) / 2 ^ 20 % 4) ≤ 1048600
      refine Nat.le_trans ((intBits_le_iff (m := 2)).mpr ?_) (by decide)
      omega

theorem part_27 : True := by
  w_top off
  trivial
/-! ## what is due when octets are read -/
noncomputable def p2 (k : Nat) : Int := 2 ^ k
theorem p2_ne (k : Nat) : p2 k ≠ 0 := Int.ne_of_gt (Int.pow_pos (by decide))
/-- what reading gives, as a datum -/
noncomputable def datR : Except Str (Pk × List Int) → Dat
  | .error why => .tuple [.str why, .list []]
  | .ok (P, o) => .tuple [.str tNone, .list [.list ((fieldsOf P).map Dat.int), .list (P.heads.map datHd), .bytes (byteArr P.data), .bytes (byteArr o)]]
noncomputable def readD (ks : List Int) : Except Str (Pk × List Int) := (readOf ks).map fun P => (P, ks.take (40 + whole (cut ks 4 6)).toNat)
theorem said_39 : True := by
  k_with "my:my int more" => (first | (refine IntE.pow (v := p2 316) (by decide) (by decide) rfl) | (refine IntE.pow (v := p2 272) (by decide) (by decide) rfl) | (refine IntE.pow (v := p2 264) (by decide) (by decide) rfl) | (refine IntE.pow (v := p2 256) (by decide) (by decide) rfl) | (refine IntE.pow (v := p2 310) (by decide) (by decide) rfl) | (refine IntE.pow (v := p2 308) (by decide) (by decide) rfl) | (refine IntE.pow (v := p2 288) (by decide) (by decide) rfl) | (with_reducible exact p2_ne _))
  k_with "my:binaryOp Pow int int" => (k_here; first | refine pow_lit 316 (p2 316) (by decide) (by decide) rfl ?_ | refine pow_lit 272 (p2 272) (by decide) (by decide) rfl ?_ | refine pow_lit 264 (p2 264) (by decide) (by decide) rfl ?_ | refine pow_lit 256 (p2 256) (by decide) (by decide) rfl ?_ | refine pow_lit 310 (p2 310) (by decide) (by decide) rfl ?_ | refine pow_lit 308 (p2 308) (by decide) (by decide) rfl ?_ | refine pow_lit 288 (p2 288) (by decide) (by decide) rfl ?_)
  k_with "my:binaryOp FloorDiv int int" => (k_here; (with_reducible show wpAny _ _ (binaryOp _ (Value.int _ _) (Value.int (p2 _) _)) _ _ _); refine floordiv_int (p2_ne _) ?_ (Or.inl (PyProof.noPylong_of_log2 (by decide +kernel))))
  k_with "my:binaryOp FloorDiv int int" => (k_here; (with_reducible show wpAny _ _ (binaryOp _ (Value.int _ _) (Value.int 340282366920938463463374607431768211456 _)) _ _ _); refine floordiv_int (by decide) ?_ (Or.inl (PyProof.noPylong_of_log2 (by decide +kernel))))
  k_with "my:binaryOp Mod int int" => (k_here; (with_reducible show wpAny _ _ (binaryOp _ (Value.int _ _) (Value.int 340282366920938463463374607431768211456 _)) _ _ _); refine mod_int' (by decide) ?_)
  trivial
theorem great {ks : List Int} (hk : ∀ k ∈ ks, 0 ≤ k ∧ k < 256) (hl : 40 ≤ ks.length) :
    (whole (ks.take 40)).fdiv (p2 316) = whole (cut ks 0 4) / 2 ^ 28 ∧ ((whole (ks.take 40)).fdiv (p2 272)).fmod 65536 = whole (cut ks 4 6) ∧ ((whole (ks.take 40)).fdiv (p2 264)).fmod 256 = ks.getD 6 0 ∧
    ((whole (ks.take 40)).fdiv 340282366920938463463374607431768211456).fmod 340282366920938463463374607431768211456 = whole (cut ks 8 24) ∧ (whole (ks.take 40)).fmod 340282366920938463463374607431768211456 = whole (cut ks 24 40) ∧
    ((whole (ks.take 40)).fdiv (p2 256)).fmod 256 = ks.getD 7 0 ∧ ((whole (ks.take 40)).fdiv (p2 310)).fmod 64 = whole (cut ks 0 4) / 2 ^ 22 % 64 ∧ ((whole (ks.take 40)).fdiv (p2 308)).fmod 4 = whole (cut ks 0 4) / 2 ^ 20 % 4 ∧
    ((whole (ks.take 40)).fdiv (p2 288)).fmod 1048576 = whole (cut ks 0 4) % 2 ^ 20 := by
  have pp : ∀ k, 0 ≤ p2 k := fun k => Int.le_of_lt (Int.pow_pos (by decide))
  have w6 := whole_one ks 6 (by omega)
  have w7 := whole_one ks 7 (by omega)
  have top := whole_top ks hk hl
  have q1 := whole_piece ks hk 4 6 (by decide) (by decide) hl
  have q2 := whole_piece ks hk 6 7 (by decide) (by decide) hl
  have q3 := whole_piece ks hk 8 24 (by decide) (by decide) hl
  have q4 := whole_piece ks hk 24 40 (by decide) (by decide) hl
  have q5 := whole_piece ks hk 7 8 (by decide) (by decide) hl
  rw [show ((6 + 1 : Nat) : Nat) = 7 from rfl] at w6
  rw [show ((7 + 1 : Nat) : Nat) = 8 from rfl] at w7
  rw [w6] at q2
  rw [w7] at q5
  generalize whole (ks.take 40) = W at *
  have tp : ∀ k, W / p2 (288 + k) = whole (cut ks 0 4) / 2 ^ k := fun k => by
    rw [← top, Int.ediv_ediv_of_nonneg (Int.le_of_lt (Int.pow_pos (by decide)))]
    unfold p2; rw [Int.pow_add]
  refine ⟨?_, ?_, ?_, ?_, ?_, ?_, ?_, ?_, ?_⟩
  · rw [fd (pp _)]; exact tp 28
  · rw [fd (pp _), fm (by decide)]; exact q1
  · rw [fd (pp _), fm (by decide)]; exact q2
  · rw [fd (by decide), fm (by decide)]; exact q3
  · rw [fm (by decide)]
    have e : W / 256 ^ (40 - 40) = W := by simp
    rw [e] at q4
    exact q4
  · rw [fd (pp _), fm (by decide)]; exact q5
  · rw [fd (pp _), fm (by decide), tp 22]
  · rw [fd (pp _), fm (by decide), tp 20]
  · rw [fd (pp _), fm (by decide)]
    have := tp 0
    rw [Int.pow_zero, Int.ediv_one] at this
    rw [this]; rfl
theorem take_cut {ks : List Int} {e : Int} (h0 : 40 ≤ e) (h1 : e ≤ ks.length) : List.take (min e.toNat ks.length - 40) (List.drop 40 ks) = cut ks 40 e := by
  rw [Nat.min_eq_left (by omega)]
  show _ = (ks.take e.toNat).drop 40
  rw [List.drop_take]
theorem said_40 : True := by
  k_with "my:my left" => (repeat (first | exact List.mem_append_left _ (by assumption) | exact List.mem_append_left _ (List.mem_append_left _ (by assumption)) | refine List.mem_cons_of_mem _ ?_))
  k_with "my:my ints" => (first | exact IntsAre.cons _ _ (IntsAre.cons _ _ (IntsAre.cons _ _ (IntsAre.cons _ _ IntsAre.nil))) | exact IntsAre.cons _ _ (IntsAre.cons _ _ (IntsAre.cons _ _ IntsAre.nil)))
  trivial
theorem law_due_read_c (w : World) (news : List (Addr × Obj)) (l : Addr) (vs : List Value) (n : Nat) (ks : List Int) (hm : (l, listOf vs.toArray n) ∈ news) (hi : IntsAre vs ks) (hk : ∀ k ∈ ks, 0 ≤ k ∧ k < 256) (hlen : ks.length ≤ 240) :
    Called w 227 80 3500 [.ref l] news (fun base => True) (IsDat (datR (readD ks)) news) := by
  refine of_heldQ ?_
  simp (disch := (refine anchorQ ?_; k_dflt (
  have hvl := hi.length
  have hvsz : vs.toArray.size = ks.length := by rw [List.size_toArray, hvl]
  have hl62 : ks.length < 2 ^ 62 := by omega
  k_extra "my:my start"
  rename_i hret
  k_extra "my:my enter"
  rename Fr _ _ _ _ => F0
  rename News _ _ _ _ => N0
  have N1 := put N0 hm
  have hkt : ∀ k ∈ List.take (Int.toNat 40) ks, 0 ≤ k ∧ k < 256 := fun k h => hk k (List.mem_of_mem_take h)
  k_steps
  · rw [show readD ks = .error tHead from by unfold readD readOf; rw [if_pos (by omega)]; rfl] at hret
    exact retAll hret (by k_asm) (by k_asm) (fun p hp => by k_extra "my:my tail") (.tuple (.head _) (.cons (.str _ _) (.cons (.list (.tail _ (.head _)) .nil) .nil)))
  all_goals rename ¬ (ks.length : Int) < 40 => h40
  all_goals obtain ⟨f316, f272, f264, f128, f0, f256, f310, f308, f288⟩ := great hk (by omega)
  · rename Int.fdiv _ _ ≠ 6 => h6
    rw [f316] at h6
    rw [show readD ks = .error tVer from by unfold readD readOf; rw [if_neg (by omega), if_pos h6]; rfl] at hret
    exact retAll hret (by k_asm) (by k_asm) (fun p hp => by k_extra "my:my tail") (.tuple (.head _) (.cons (.str _ _) (.cons (.list (.tail _ (.head _)) .nil) .nil)))
  · rename Int.fdiv _ _ = 6 => h6
    rename (ks.length : Int) < 40 + _ => hl
    rw [f316] at h6
    rw [f272] at hl
    rw [show readD ks = .error tLen from by unfold readD readOf; rw [if_neg (by omega), if_neg (fun h => h h6), if_pos (by omega)]; rfl] at hret
    exact retAll hret (by k_asm) (by k_asm) (fun p hp => by k_extra "my:my tail") (.tuple (.head _) (.cons (.str _ _) (.cons (.list (.tail _ (.head _)) .nil) .nil)))
  rename Int.fdiv _ _ = 6 => h6
  rename ¬ (ks.length : Int) < 40 + _ => hl
  rw [f316] at h6
  refine Stop.out ?_
  rename IntsAre _ (List.take _ (List.drop _ ks)) => hI9
  rw [f272] at hI9 hl
  obtain ⟨b1, b2, b3⟩ := whole_cut hk 2 (a := 4) (e := 6) (by omega) (by omega) (by omega) (by omega)
  rw [take_cut (by omega) (by omega)] at hI9
  have hcl := cut_length (ks := ks) (at_ := 40) (e := 40 + whole (cut ks 4 6)) (by omega) (by omega) (by omega)
  rename Fr _ _ _ _ => F7
  rename News _ _ _ _ => N7
  k_dflt (refine' Called.use ?k1 F7 ?k3 N7 ?k5 ?k6 (law_walk_c w 30 _ _ _ _ _ _ _ _ (List.Mem.head _) hI9 (cut_in hk _ _) (by omega) (by omega)) trivial ?kd ?ku ?_)
  k_extra "my:my facts2"
  intro v9 tl9 h9 tk9 F9 N9 hpt6
  (try k_extra "my:my fold")
  obtain ⟨p9, hl9, vs9, n9, dl9, ds9, n8, tw9, tp9, rfl, mp, mh, hda9, md, hds9⟩ := hpt6
  (try dsimp only)
  have hcnt := walk_count (ks.getD 6 0) (cut ks 40 (40 + whole (cut ks 4 6))) true (cut_in hk _ _)
  have hdl := walk_rest (kind := ks.getD 6 0) (ns := cut ks 40 (40 + whole (cut ks 4 6))) (f := true) (cut_in hk _ _)
  have hwh := walk_heads (ks.getD 6 0) (cut ks 40 (40 + whole (cut ks 4 6))) true (cut_in hk _ _) (getD_in hk 6)
  have hread : readOf ks = if (walk (ks.getD 6 0) (cut ks 40 (40 + whole (cut ks 4 6))) true).1 ≠ tNone then .error (walk (ks.getD 6 0) (cut ks 40 (40 + whole (cut ks 4 6))) true).1 else .ok { src := whole (cut ks 8 24), tgt := whole (cut ks 24 40), prot := (walk (ks.getD 6 0) (cut ks 40 (40 + whole (cut ks 4 6))) true).2.2.1, hop := ks.getD 7 0, dscp := whole (cut ks 0 4) / 2 ^ 22 % 64, ecn := whole (cut ks 0 4) / 2 ^ 20 % 4, flow := whole (cut ks 0 4) % 2 ^ 20, heads := (walk (ks.getD 6 0) (cut ks 40 (40 + whole (cut ks 4 6))) true).2.1, data := (walk (ks.getD 6 0) (cut ks 40 (40 + whole (cut ks 4 6))) true).2.2.2 } := by
    unfold readOf; rw [if_neg (by omega), if_neg (fun h => h h6), if_neg (by omega)]
  rw [f264] at mp hda9 hds9
  generalize walk (ks.getD 6 0) (cut ks 40 (40 + whole (cut ks 4 6))) true = R at mp hda9 hds9 hcnt hdl hwh hread
  have hv9 := hda9.length
  rw [List.length_map] at hv9
  have hd9 := hds9.length
  have N9 := put (put (put N9 md) (.tail _ (List.mem_append_left _ mh))) (.tail _ (.tail _ (List.mem_append_left _ mp)))
  have N9 := put N9 (p := (l, listOf vs.toArray n)) (by k_extra "my:my tail")
  k_steps
  · rename (R.1 != _) = true => hy
    rw [show readD ks = .error R.1 from by unfold readD; rw [hread, if_pos (show R.1 ≠ tNone from bne_iff_ne.mp hy)]; rfl] at hret
    exact retAll hret (by k_asm) (by k_asm) (fun p hp => by k_extra "my:my tail") (.tuple (.head _) (.cons (.str _ _) (.cons (.list (.tail _ (.head _)) .nil) .nil)))
  rename (R.1 != _) = false => hy
  have hy : R.1 = tNone := bne_eq_false_iff_eq.mp hy
  rw [hy, if_neg (fun h => h rfl)] at hread
  obtain ⟨o, g1, g2, g3, g4, g5⟩ := hwh hy
  have hdin : KBa.In R.2.2.2 := fun k h => cut_in hk 40 (40 + whole (cut ks 4 6)) k (by rw [← g2]; exact List.mem_append_right _ h)
  refine Stop.out ?_
  rename IntsAre _ ([_, _, _, _] ++ [_, _, _]) => hNum
  rename Fr _ _ _ _ => F5
  rename News _ _ _ _ => N5
  refine KBa.make_K F5 N5 rfl ⟨_, (N5 _ (by k_mem : (dl9, listOf ds9.toArray n8) ∈ _)).1, rfl, _, rfl⟩ hds9 hdin (by omega) fun h8 t8 k8 F8 N8 hin8 => ?_
  k_steps
  refine Stop.out ?_
  rename IntsAre _ (List.take _ ks) => hW
  rename Fr _ _ _ _ => F4
  rename News _ _ _ _ => N4
  rw [f272] at hW
  refine KBa.make_K F4 N4 rfl ⟨_, (N4 _ (.head _)).1, rfl, _, rfl⟩ hW (fun k h => hk k (List.mem_of_mem_take h)) (by rw [List.length_take]; omega) fun h3 t3 k3 F3 N3 hin3 => ?_
  k_steps
  rw [f128, f0, f256, f310, f308, f288] at hNum
  rw [show readD ks = .ok (_, _) from by unfold readD; rw [hread]; rfl] at hret
  exact retAll hret (by k_asm) (by k_asm) (fun p hp => by k_extra "my:my tail") (.tuple (.head _) (.cons (.str _ _) (.cons (.list (.tail _ (.head _)) (.cons (.list (by k_mem) (ints_dat hNum)) (.cons (.list (by k_mem : (hl9, listOf vs9.toArray n9) ∈ _) (hda9.mono fun p hp => by k_extra "my:my left")) (.cons (.bytes _ _) (.cons (.bytes _ _) .nil))))) .nil)))))) only [↓heldQ_eq]
theorem said_41 : True := by
  k_with "my:call ref" => (k_here; (fail_if_success plain_pass); (with_reducible show wpAny _ _ (call (Value.ref 227) _) _ _ _); refine Stop.intro ?_)
  trivial

theorem part_28 : True := by
  w_top off
  trivial
/-! ## the octets hurt -/
/-- what a call gives that may turn what stood: R speaks of the whole ledger behind it -/
def CalledM (w : World) (f : Addr) (d u : Nat) (args : List Value) (news : List (Addr × Obj)) (Pb : Heap → Prop) (R : Value → List (Addr × Obj) → Prop) : Prop :=
  ∀ (mean : ExcName → Option Value) (mg mb : Str → Option Value) (dp un : Nat) (gd : Option (List Code)) (cn : Str) (cs : Scope) (a : Addr) (ccd : Value) (cl : List (Str × Addr)) (outer : List Env) (A₀ : Around)
    (base h₀ : Heap) (L : Addr) (m : Str → Option Value) (s : Shared) (Q E : Value → Shared → Prop),
    Below A₀ base outer h₀ → Fr h₀ L s.heap m → (hd.heap_1 w.params).In h₀ → News h₀ L s.heap news → Top vw (looseW vw []) mean mg mb h₀ → cs.kind = .function → Pb base →
    dp + d < recursionLimit → un + u < cLine →
    (∀ v led h' tk', Fr h₀ L h' m → News h₀ L h' led → R v led → Q v { s with heap := h', toks := tk' }) →
    wpAny (model PySem.Challenge.rw_pf0340_01.row.prog w) (ktrTop dp un gd cn cs L a ccd cl outer) (call (.ref f) args) Q E s
theorem CalledM.use {w : World} {f : Addr} {d u : Nat} {args : List Value} {news : List (Addr × Obj)} {Pb : Heap → Prop} {R : Value → List (Addr × Obj) → Prop}
    {mean : ExcName → Option Value} {mg mb : Str → Option Value} {dp un : Nat} {gd : Option (List Code)} {cn : Str} {cs : Scope} {a : Addr} {ccd : Value} {cl : List (Str × Addr)} {outer : List Env} {A₀ : Around}
    {base h₀ : Heap} {L : Addr} {m : Str → Option Value} {s : Shared} {Q E : Value → Shared → Prop} (B : Below A₀ base outer h₀) (F : Fr h₀ L s.heap m) (X : (hd.heap_1 w.params).In h₀) (N : News h₀ L s.heap news)
    (T : Top vw (looseW vw []) mean mg mb h₀) (hk : cs.kind = .function) (c : CalledM w f d u args news Pb R) (hb : Pb base) (hd : dp + d < recursionLimit) (hu : un + u < cLine)
    (ret : ∀ v led h' tk', Fr h₀ L h' m → News h₀ L h' led → R v led → Q v { s with heap := h', toks := tk' }) :
    wpAny (model PySem.Challenge.rw_pf0340_01.row.prog w) (ktrTop dp un gd cn cs L a ccd cl outer) (call (.ref f) args) Q E s := c _ _ _ _ _ _ _ _ _ _ _ _ _ _ _ _ _ _ _ _ B F X N T hk hb hd hu ret
/-- the list is as long as it was, of octets -/
inductive IsHurt (l : Addr) (k : Nat) (rest : List (Addr × Obj)) (v : Value) (led : List (Addr × Obj)) : Prop
  | mk (vs : List Value) (n : Nat) (ns : List Int) (h : led = (l, listOf vs.toArray n) :: rest) (hi : IntsAre vs ns) (hin : KBa.In ns) (hl : ns.length = k) : IsHurt l k rest v led
theorem retHurt {h₀ : Heap} {L l : Addr} {m : Str → Option Value} {rest led : List (Addr × Obj)} {s : Shared} {Q : Value → Shared → Prop} {v : Value} {h' : Heap} {tk' k n : Nat} {vs : List Value} {ns : List Int}
    (hret : ∀ v led h' tk', Fr h₀ L h' m → News h₀ L h' led → IsHurt l k rest v led → Q v { s with heap := h', toks := tk' }) (F : Fr h₀ L h' m) (N : News h₀ L h' led) (hl : (l, listOf vs.toArray n) ∈ led) (hs : ∀ p ∈ rest, p ∈ led) (hi : IntsAre vs ns) (hin : KBa.In ns) (hk : ns.length = k) :
    Q v { s with heap := h', toks := tk' } := hret v _ h' tk' F (cb_drop N (List.forall_mem_cons.mpr ⟨hl, hs⟩)) ⟨vs, n, ns, rfl, hi, hin, hk⟩
theorem menu_hurt (j : Nat) : 0 ≤ ([0, 43, 44, 51, 59, 60, 1, 2] : List Int).getD j 0 ∧ ([0, 43, 44, 51, 59, 60, 1, 2] : List Int).getD j 0 < 256 := by
  by_cases h : j < 8
  · exact (by decide : ∀ j : Nat, j < 8 → 0 ≤ ([0, 43, 44, 51, 59, 60, 1, 2] : List Int).getD j 0 ∧ ([0, 43, 44, 51, 59, 60, 1, 2] : List Int).getD j 0 < 256) j h
  · rw [getD_ge (by simpa using h)]; decide
theorem law_hurt_c (w : World) (rest : List (Addr × Obj)) (l : Addr) (vs : List Value) (n : Nat) (ns : List Int) (d : Int) (t : Tok) (hi : IntsAre vs ns) (hk : KBa.In ns) (h40 : 40 ≤ ns.length) (hlen : ns.length ≤ 240) (hne : ∀ p ∈ rest, p.1 ≠ l) :
    CalledM w 248 4 60 [.ref l, .int d t] ((l, listOf vs.toArray n) :: rest) (fun _ => True) (IsHurt l ns.length rest) := by
  refine of_heldQ ?_
  simp (disch := (refine anchorQ ?_; k_dflt (
  have hvl := hi.length
  have hvsz : vs.toArray.size = ns.length := by rw [List.size_toArray, hvl]
  have hl62 : ns.length < 2 ^ 62 := by omega
  unfold CalledM
  k_fill
  intros
  rename_i hret
  have hNFN : NoFoldN := trivial
  have hNFF : NoFoldF := trivial
  k_extra "my:my enter"
  k_steps
  refine Stop.out ?_
  rename Fr _ _ _ _ => F7
  (try dsimp only at F7)
  (try dsimp +zetaDelta only at F7)
  with_reducible generalize hW : d.fmod 6 = W at F7
  (try dsimp +zetaDelta only at F7)
  with_reducible generalize hR : d.fdiv 6 = R at F7
  have hw9 : WayOk W := rfl
  have hcs : W = 0 ∨ W = 1 ∨ W = 2 ∨ W = 3 ∨ W = 4 ∨ W = 5 := by
    rw [fm (by decide)] at hW
    have h0 := Int.emod_nonneg d (show (6 : Int) ≠ 0 by decide)
    have h1 := Int.emod_lt_of_pos d (show (0 : Int) < 6 by decide)
    rw [hW] at h0 h1
    obtain ⟨x, rfl⟩ := Int.eq_ofNat_of_zero_le h0
    exact (by decide : ∀ x : Nat, x < 6 → (x : Int) = 0 ∨ (x : Int) = 1 ∨ (x : Int) = 2 ∨ (x : Int) = 3 ∨ (x : Int) = 4 ∨ (x : Int) = 5) x (Int.ofNat_lt.mp h1)
  clear hW hR
  have hm1 : 40 < ns.length → 0 ≤ (R.fdiv 8).fmod ((ns.length : Int) - 40) ∧ (R.fdiv 8).fmod ((ns.length : Int) - 40) < (ns.length : Int) - 40 := fun h => by
    rw [fm (by omega)]; exact ⟨Int.emod_nonneg _ (by omega), Int.emod_lt_of_pos _ (by omega)⟩
  have hm2 : 0 ≤ (R.fdiv 256).fmod (ns.length : Int) ∧ (R.fdiv 256).fmod (ns.length : Int) < (ns.length : Int) := by
    rw [fm (by omega)]; exact ⟨Int.emod_nonneg _ (by omega), Int.emod_lt_of_pos _ (by omega)⟩
  rcases hcs with rfl | rfl | rfl | rfl | rfl | rfl
  all_goals k_steps
  all_goals first
    | (rename IntsAre _ (List.set ns _ _) => hS
       exact retHurt hret (by k_asm) (by k_asm) (by k_mem) (fun p hp => by k_extra "my:my tail") hS (in_set hk (by first | exact fm_in _ | exact menu_hurt _ | (rw [fm (by decide)]; omega))) (List.length_set ..))
    | exact retHurt hret (by k_asm) (by k_asm) (by k_mem) (fun p hp => by k_extra "my:my tail") hi hk rfl))) only [↓heldQ_eq]
theorem said_42 : True := by
  k_with "my:call ref" => (k_here; (fail_if_success plain_pass); (with_reducible show wpAny _ _ (call (Value.ref 248) _) _ _ _); refine Stop.intro ?_)
  k_with "my:binaryOp Pow int int" => (k_here; first | refine pow_lit 127 170141183460469231731687303715884105728 (by decide) (by decide) (by decide +kernel) ?_ | refine pow_lit 125 42535295865117307932921825928971026432 (by decide) (by decide) (by decide +kernel) ?_)
  trivial

theorem part_29 : True := by
  w_top off
  trivial
/-! ## any octets -/
inductive IsAny (v : Value) (tl : List (Addr × Obj)) : Prop
  | mk (l : Addr) (vs : List Value) (n : Nat) (ns : List Int) (hv : v = .ref l) (hm : (l, listOf vs.toArray n) ∈ tl) (hi : IntsAre vs ns) (hin : KBa.In ns) (hl : ns.length ≤ 240) : IsAny v tl
inductive HurtJ (lo l : Addr) (news : List (Addr × Obj)) (len i : Nat) (m : Str → Option Value) (nx : List (Addr × Obj)) : Prop
  | mk (vs : List Value) (n : Nat) (ks : List Int) (hnx : nx = (lo, listOf vs.toArray n) :: news) (hi : IntsAre vs ks) (hin : KBa.In ks) (hl : ks.length = len) (e1 : m (Str.ofString "octets") = some (.ref lo)) (e2 : m (Str.ofString "script") = some (.ref l)) : HurtJ lo l news len i m nx
noncomputable abbrev anyPk (p : Int) (js : List Hd) (dt : List Int) : Pk := { src := 170141183460469231731687303715884105729, tgt := 42535295865117307932921825928971026435, prot := p, hop := 9, dscp := 5, ecn := 2, flow := 70000, heads := js, data := dt }
theorem any_fits {p : Int} (hp : 0 ≤ p ∧ p < 256) (js : List Hd) (dt : List Int) : PkFits (anyPk p js dt) := by
  have a : (0 : Int) ≤ 170141183460469231731687303715884105729 ∧ (170141183460469231731687303715884105729 : Int) < 2 ^ 128 := by decide +kernel
  have b : (0 : Int) ≤ 42535295865117307932921825928971026435 ∧ (42535295865117307932921825928971026435 : Int) < 2 ^ 128 := by decide +kernel
  have c : (0 : Int) ≤ 9 ∧ (9 : Int) < 256 := by decide
  have d : (0 : Int) ≤ 5 ∧ (5 : Int) < 64 := by decide
  have e : (0 : Int) ≤ 2 ∧ (2 : Int) < 4 := by decide
  have f : (0 : Int) ≤ 70000 ∧ (70000 : Int) < 2 ^ 20 := by decide +kernel
  exact ⟨a, b, hp, c, d, e, f⟩
theorem said_43 : True := by
  k_with "my:exec Assign cons ListComp" => (k_here; (fail_if_success plain_pass); (with_reducible show wpAny _ _ (exec (Stmt.Assign [PySem.Expr.Name ("around" : Str) _] _ _) _) _ _ _); k_dflt (refine LCg.Assign_ListComp_U (F₀ := by k_asm) (by rfl) (by with_unfolding_all rfl) (by with_unfolding_all rfl) (by decide) (by rfl) (by decide) (by rfl) (by rfl) (by rfl) ?_))
  k_with "my:eval Name" => (k_here; (with_reducible show wpAny _ _ (eval (PySem.Expr.Name ("heads" : Str) _) (compEnvC _ _ _ _)) _ _ _); refine kcf_cell ?kcN rfl ?kcM ?kcD ?_; (case kcN => k_asm); (case kcM => k_mem); (case kcD => with_reducible assumption))
  k_with "my:eval Name" => (k_here; (with_reducible show wpAny _ _ (eval (PySem.Expr.Name ("len" : Str) _) (compEnvC _ _ _ _)) _ _ _); refine LCgL.ld_built (by k_asm) (by k_asm) (by k_asm) (by k_is) (by boot_by_name) (by decide) ?_)
  k_with "my:CompSrc" => ((with_reducible show LCg.CompSrc _ _ _ _ _ _ _ (PySem.Expr.Subscript (PySem.Expr.Name ("heads" : Str) _) _ _) _ _ _ _ _ _); refine Stop.intro ?_)
  trivial
theorem join_list {prog : Program} {w : World} {A : Around} {env : Env} {st : Stmt} {rest : List Stmt} {Q : Flow → Shared → Prop} {E : Value → Shared → Prop} {h h₀ : Heap} {g : Array GenState} {d : Drawn} {t : Nat} {o : OsState} {m : Str → Option Value} (_ : Fr h₀ env.locals h m) (x : Str) (base : List (Addr × Obj)) (P : List Int → Prop)
    (h1 : ∀ h' k' a vx nx kx, Fr h₀ env.locals h' (fun y => if y = x then some (.ref a) else m y) → News h₀ env.locals h' ((a, listOf vx.toArray nx) :: base) → IntsAre vx kx → P kx → (∀ p ∈ base, p.1 < a) → wpAny (model prog w) A (execs rest env) Q E ⟨h', g, d, k', o⟩)
    (h2 : wpAny (model prog w) A (exec st env) (JoinAt (fun s' => ∃ h' k' a vx nx kx, s' = ⟨h', g, d, k', o⟩ ∧ Fr h₀ env.locals h' (fun y => if y = x then some (.ref a) else m y) ∧ News h₀ env.locals h' ((a, listOf vx.toArray nx) :: base) ∧ IntsAre vx kx ∧ P kx ∧ (∀ p ∈ base, p.1 < a)) Q) E ⟨h, g, d, t, o⟩) :
    wpAny (model prog w) A (execs (st :: rest) env) Q E ⟨h, g, d, t, o⟩ :=
  join _ (fun s' ⟨h', k', a, vx, nx, kx, e, F', N', i, p, q⟩ => e ▸ h1 h' k' a vx nx kx F' N' i p q) h2
theorem law_any_c (w : World) (news : List (Addr × Obj)) (l : Addr) (vs : List Value) (ns : List Int) (hi : IntsAre vs ns) (hlen : ns.length < 64) (l2 : Addr) (vs2 : List Value) (n2 : Nat) (hs : List Hd) (hm : (l2, listOf vs2.toArray n2) ∈ news) (hda : DatAll news vs2 (hs.map datLd)) (hn : hs.length ≤ 4) (hf : HdsFine 1 hs) :
    Called w 253 16 400 [.ref l, .ref l2] news (fun base => base.IsList l vs.toArray) IsAny := by
  refine of_heldQ ?_
  simp (disch := (refine anchorQ ?_; k_dflt (
  have hvl := hda.length
  rw [List.length_map] at hvl
  have hvsz : vs2.toArray.size = hs.length := by rw [List.size_toArray, hvl]
  have hl62 : hs.length < 2 ^ 62 := by omega
  k_extra "my:my start"
  rename_i hret
  have hNFN : NoFoldN := trivial
  k_extra "my:my enterC"
  rename Fr _ _ _ _ => F0
  rename News _ _ _ _ => N0
  have N1 := put N0 (.tail _ hm)
  rename Obj => co
  have hco : co.data = Data.cell (some (.ref l2)) := by assumption
  k_steps
  refine Stop.out ?_
  rename IsRange _ _ _ _ _ _ _ _ => hr
  rename Fr _ _ _ _ => F1
  rename News _ _ _ _ => N2
  obtain ⟨hsm, hsz⟩ := range_small hl62
  refine LCg.CompSrc.range rfl F1 N2 hr hsm hsz (by rw [sizeLine_eq]; omega) fun g => comp_inv (fun i ys nw => nw = _ ∧ ∃ js, DatAll news ys (js.map datLd) ∧ HdsFine 0 js ∧ js.length = i) ⟨rfl, [], .nil, .nil, rfl⟩ ?_ ?_
  · intro i ys nw v I oI C oC D m₂ h tk E' hi' hpt14 hpt15 hC hx F N off ne
    (try k_extra "my:my fold")
    obtain ⟨t, rfl⟩ := hpt14
    obtain ⟨rfl, js, hjs, hfj, hjl⟩ := hpt15
    k_steps
    rename DatIn _ _ _ => hD
    rename (hs.map datLd)[_]? = _ => hk2
    rw [List.getElem?_map] at hk2
    obtain ⟨h3, hh3, rfl⟩ := Option.map_eq_some_iff.mp hk2
    obtain ⟨g1, g2, g3, g4⟩ := hf _ (List.mem_of_getElem? hh3)
    refine LCg.CompEnd.intro (by k_asm) (by k_asm) _ (fun p hp => hp) off trivial ⟨rfl, js ++ [h3], by rw [List.map_append]; exact hjs.append (.cons hD .nil), hfj.snoc ⟨g1, g2, by omega, Nat.zero_le _⟩, by rw [List.length_append, hjl]; rfl⟩
  · intro ys nw hpt2
    (try k_extra "my:my fold")
    obtain ⟨rfl, js, hjs, hfj, hjl⟩ := hpt2
    intro D h tk F N off
    (try dsimp only)
    k_steps
    refine Stop.out ?_
    rename Fr _ _ _ _ => F7
    rename News _ _ _ _ => N7
    have hmany : 0 ≤ (dig ns (Int.toNat 18) + 4).fmod 10 ∧ (dig ns (Int.toNat 18) + 4).fmod 10 < 10 := by rw [fm (by decide)]; omega
    generalize hdt : some_ (dig ns (Int.toNat 17)) ((dig ns (Int.toNat 18) + 4).fmod 10).toNat 8 = dt at i9
    have hdl : dt.length ≤ 20 := by rw [← hdt, some_length]; omega
    have hdi : KBa.In dt := by rw [← hdt]; exact some_in _ _ _
    k_dflt (refine' Called.use ?k1 F7 ?k3 N7 ?k5 ?k6 (law_octets_c _ _ (anyPk ((dig ns (Int.toNat 16)).fmod 256) js dt) _ _ _ _ _ _ _ _ _ ?o1 ?o2 ?o3 ?o4 ?o5 ?o6 ?o7 ?o8 ?o9 ?oA ?oB) trivial ?kd ?ku ?_)
    (case o1 => k_mem)
    (case o2 => k_extra "my:my ints7")
    (case o3 => k_mem)
    (case o4 => exact hjs.mono fun p hp => by k_extra "my:my tail")
    (case o5 => k_mem)
    (case o6 => exact i9)
    (case o7 => show js.length ≤ 4; omega)
    (case o8 => exact hfj)
    (case o9 => exact hdl)
    (case oA => exact hdi)
    (case oB => exact any_fits (fm_in _) js dt)
    k_extra "my:my facts2"
    intro v8 tl8 h8 tk8 F8 N8 hpt6
    (try k_extra "my:my fold")
    obtain ⟨l8, vs8, n8, rfl, rfl, i8, lt8⟩ := hpt6
    (try dsimp only)
    (try dsimp +zetaDelta only at N8)
    simp only [List.cons_append, List.nil_append] at N8
    (try k_lt lt8)
    have hlen8 := octL_len (anyPk ((dig ns (Int.toNat 16)).fmod 256) js dt)
    have hin8 := octL_in (any_fits (fm_in (dig ns (Int.toNat 16))) js dt) hfj hdi
    have hpl8 := payL_len ((dig ns (Int.toNat 16)).fmod 256) hfj
    with_reducible generalize octL _ = os at i8 hlen8 hin8
    have hm12 : 0 ≤ (dig ns (Int.toNat 20)).fmod 12 ∧ (dig ns (Int.toNat 20)).fmod 12 < 12 := by rw [fm (by decide)]; omega
    have hos : 40 ≤ os.length ∧ os.length ≤ 200 := by
      dsimp only at hlen8; omega
    k_steps
    rename IsRange _ _ _ ((dig ns (Int.toNat 21)).fmod 4) _ _ _ _ => hr2
    rename IntsAre _ (os ++ _) => hI0
    rename _ < _ ∧ _ < _ ∧ _ < _ ∧ _ < _ ∧ _ < _ ∧ _ < _ ∧ _ < _ ∧ AllLt _ news => hlast
    have hltD := allLt_lt hlast.2.2.2.2.2.2.2
    rename Fr _ _ _ _ => F6
    rename News _ _ _ _ => N6
    have hz4 : 0 ≤ (dig ns (Int.toNat 21)).fmod 4 ∧ (dig ns (Int.toNat 21)).fmod 4 < 4 := by rw [fm (by decide)]; omega
    have hin0 : KBa.In (os ++ some_ (dig ns (Int.toNat 19)) ((dig ns (Int.toNat 20)).fmod 12).toNat 0) := List.forall_mem_append.mpr ⟨hin8, some_in _ _ _⟩
    have hln0 : (os ++ some_ (dig ns (Int.toNat 19)) ((dig ns (Int.toNat 20)).fmod 12).toNat 0).length = os.length + ((dig ns (Int.toNat 20)).fmod 12).toNat := by rw [List.length_append, some_length]
    with_reducible generalize os ++ some_ (dig ns (Int.toNat 19)) ((dig ns (Int.toNat 20)).fmod 12).toNat 0 = k0 at hI0 hin0 hln0
    have hk40 : 40 ≤ k0.length ∧ k0.length ≤ 240 := by omega
    have N7 := cb_drop N6 (List.forall_mem_cons.mpr ⟨.head _, fun p (hp : p ∈ news) => (by k_extra "my:my tail" : p ∈ _)⟩)
    refine for_range rfl hr2 (n := ((dig ns (Int.toNat 21)).fmod 4).toNat) (by omega) (by omega) F6 N7
      (HurtJ _ l news k0.length)
      ⟨_, _, k0, rfl, hI0, hin0, rfl, rfl, rfl⟩ ?_ ?_ (by with_unfolding_all passes_own) (by intro _ _; rfl)
    · intro i t m₁ news₁ h tk I oI hi' hltI hpt10 ha F N
      (try k_extra "my:my fold")
      obtain ⟨vo, no, ks, rfl, hv, hin, hlk, e1, e2⟩ := hpt10
      have F := knows2 F e1 e2
      have hi4 : i < 4 := by omega
      clear hI0 hin0 hln0 hr2 hlen8 hin8 hpl8 hos hm12 hjs hfj hjl hdt hdl hdi hmany hsm hsz hr hda hf i8
      k_steps
      refine Stop.out ?_
      rename Fr _ _ _ _ => F7
      rename News _ _ _ _ => N7
      have N8 : News _ _ _ ((_, listOf vo.toArray no) :: (I, oI) :: news) := cb_drop N7 (List.forall_mem_cons.mpr ⟨.tail _ (.head _), List.forall_mem_cons.mpr ⟨.head _, fun p hp => .tail _ (.tail _ hp)⟩⟩)
      k_dflt (refine' CalledM.use ?k1 F7 ?k3 N8 ?k5 ?k6 (law_hurt_c w ((I, oI) :: news) _ vo no ks _ _ hv hin (by omega) (by omega) ?hne) trivial ?kd ?ku ?_)
      k_extra "my:my facts2"
      (case hne => exact List.forall_mem_cons.mpr ⟨fun e => ha _ (.head _) e.symm, fun p hp => Nat.ne_of_lt (hltD p hp)⟩)
      intro v9 led9 h9 tk9 F9 N9 hpt6
      (try k_extra "my:my fold")
      obtain ⟨vs9, n9, ks9, rfl, hv9, hin9, hlen9⟩ := hpt6
      (try dsimp only)
      k_steps
      exact TurnEnd.intro F9 N9 (by k_mem) (news' := (_, listOf vs9.toArray n9) :: news) (fun p hp => (List.mem_cons.mp hp).elim (fun e => e ▸ .head _) fun h => .tail _ (.tail _ h)) (apart_set ha) ⟨vs9, n9, ks9, rfl, hv9, hin9, hlen9.trans hlk, rfl, rfl⟩ rfl
    · intro m₁ news₁ h tk hpt4 F N
      (try k_extra "my:my fold")
      obtain ⟨vo, no, ks, rfl, hv, hin, hlk, e1, e2⟩ := hpt4
      have F := knows2 F e1 e2
      have hvl9 := hv.length
      have hmS : 0 ≤ ((dig ns (Int.toNat 25)).fdiv 2).fmod ((ks.length : Int) + 1) ∧ ((dig ns (Int.toNat 25)).fdiv 2).fmod ((ks.length : Int) + 1) < (ks.length : Int) + 1 := by
        rw [fm (by omega)]; exact ⟨Int.emod_nonneg _ (by omega), Int.emod_lt_of_pos _ (by omega)⟩
      clear hI0 hin0 hln0 hr2 hlen8 hin8 hpl8 hos hm12 hjs hfj hjl hdt hdl hdi hmany hsm hsz hr hda hf i8
      have hj8 : JoinHere 3 := rfl
      k_steps
      refine Stop.out ?_
      (try dsimp only)
      (try k_extra "my:my fold")
      rename JoinHere 3 => hj7
      clear hj7
      rename Fr _ _ _ _ => F5
      refine join_list F5 (Str.ofString "octets") news (fun kx => KBa.In kx ∧ kx.length ≤ 240) (fun h6 k6 a6 v6 n6 ks6 F6 N6 i6 p6 lt6 => ?_) ?_
      rotate_left
      · k_steps
        · rename IntsAre _ (List.take _ _) => hS
          rename _ < _ ∧ AllLt _ news => l7
          rename Fr _ _ _ _ => F7
          rename News _ _ _ _ => N7
          refine JoinEnd.intro ⟨_, _, _, _, _, _, rfl, F7, cb_drop N7 (List.forall_mem_cons.mpr ⟨.head _, fun p hp => by k_extra "my:my tail"⟩), hS, ⟨fun k h => hin k (List.mem_of_mem_take h), ?_⟩, allLt_lt l7.2⟩
          rw [List.length_take]
          exact Nat.le_trans (Nat.min_le_right _ _) (hlk ▸ hk40.2)
        · rename Fr _ _ _ _ => F7
          rename News _ _ _ _ => N7
          exact JoinEnd.intro ⟨_, _, _, _, _, _, rfl, knows1 F7 rfl, N7, hv, ⟨hin, hlk ▸ hk40.2⟩, hltD⟩
      obtain ⟨p6, p7⟩ := p6
      have hvl6 := i6.length
      k_steps
      all_goals first
        | (rename IntsAre _ (List.set (List.set _ _ _) _ _) => hS
           refine retAll hret (by k_asm) (by k_asm) (fun p hp => by k_extra "my:my tail") ⟨_, _, _, _, rfl, by k_mem, hS, in_set (in_set p6 (by decide)) ?_, ?_⟩
           · simp only [List.length_set]; omega
           · simp only [List.length_set]; exact p7)
        | exact retAll hret (by k_asm) (by k_asm) (fun p hp => by k_extra "my:my tail") ⟨_, _, _, _, rfl, by k_mem, i6, p6, p7⟩))) only [↓heldQ_eq]

theorem part_30 : True := by
  w_top off
  trivial
/-! ## reading a fault's own attribute -/
theorem exc_check_ga {M : Model} {A : Around} {E : Value → Shared → Prop} {nm q : Str} {C N x : Addr} {bs bm : List Value} {hdct : Bool} {sn : List Str} {sub : List Value} {ab : Bool} {col : Option Bool} {dd : Option Addr} {k0 k1 k2 k3 k5 : Option Value} {nw : String} {ox : Obj} {nameV : Value}
    {h : Heap} {g : Array GenState} {d : Drawn} {t : Nat} {os : OsState} {Q : Unit → Shared → Prop} (hC : h.get? C = some (excClassObj nm q C N bs bm hdct sn sub ab col dd k0 k1 k2 k3 k5 nw)) (hB : bm.contains (.type "BaseException") = true)
    (hx : h.get? x = some ox) (hcls : ox.cls = .ref C) (hq : Q () ⟨h, g, d, t, os⟩) : wpAny M A (checkBuiltinCall "BaseException.__getattribute__" ⟨[.ref x, nameV], []⟩) Q E ⟨h, g, d, t, os⟩ := by
  have hcB : (Value.ref C :: bm).contains (.type "BaseException") = true := by rw [List.contains_cons, hB, Bool.or_true]
  have hk : builtinKind "BaseException.__getattribute__" = some .slot := by decide +kernel
  have hsplit : splitId "BaseException.__getattribute__" = some ("BaseException", "__getattribute__") := by decide +kernel
  have ha := F.args_bexc_ga (.ref x) nameV
  simp only [checkBuiltinCall, hk, hsplit]
  refine wpAny_bind ?_
  unfold isInstance
  repeat (first | (with_reducible refine wpAny_loadPart_at hx ?_; rw [hcls]) | (with_reducible refine wpAny_isSubtype_exc hC ?_; rw [hcB]) | wp_step)
  exact hq
theorem exc_get {prog : Program} {w : World} {A : Around} {E : Value → Shared → Prop} {s : Shared} {K : Frag} {x C : Addr} {ox : Obj} {od : Option Obj} {name : Str} {v : Value} {expr : Bool} {Q : Value → Shared → Prop}
    (X : K.In s.heap) (q : ktsIn K C "BaseException" = true) (I : InstAt s.heap x ox C od)
    (hga : findIn K (.ref C) "__getattribute__" = some (some (.builtin "BaseException.__getattribute__"))) (hgn : findIn K (.ref C) "__getattr__" = some none)
    (hf : findObj K C od name = some (.value v)) (hh : handedIn v = true) (h : Q v { s with toks := s.toks + 1 }) : wpAny (model prog w) A (getAttr (.ref x) name expr) Q E s := by
  obtain ⟨nm, q', N, bs, bm, hdct, sn, sub, ab, col, dd, k0, k1, k2, k3, k5, newId, hC, hbase, hbT⟩ := kts_cls X q
  obtain ⟨hp, g, d, t, os⟩ := s
  have hx := I.at_
  have L0 : ∀ {M : Model}, Looks M hp (typeOf (.ref x)) (.ref C) := I.type
  have L1 := looks_findIn (M := model prog w) X hga
  have L2 := looks_findIn (M := model prog w) X hgn
  have L3 := looks_find (M := model prog w) X I hf
  have FB := F.attr_ValueError.ga
  unfold getAttr getAttrBy
  refine wpAny_bind (wpAny_mkText (wpAny_holding (wpAny_bind (L0.at (wpAny_bind (L1.at ?_))))))
  show wpAny _ _ (getAttrByItsOwn _ _ _ _ _ _) _ _ _
  unfold getAttrByItsOwn
  refine wpAny_bind (show wpAny _ _ (typeLookup (.ref C) "__getattr__") _ _ _ from L2.at ?_)
  refine wpAny_bind (wpAny_attempt (wpAny_holding ?_))
  unfold callGetattribute
  rw [show (expr && onTheHeap (Value.builtin "BaseException.__getattribute__")) = false by cases expr <;> rfl, if_neg (by decide)]
  unfold boundAndCalled
  rw [FB.bind (.ref x)]
  refine wpAny_bind (wpAny_pure ?_)
  refine wpAny_call (codeAny_call_builtin FB.plain F.entry_bexc_ga ?_)
  refine exc_check_ga hC hbase hx I.cls ?_
  show wpAny _ _ (Builtin.«object.__getattribute__» ⟨[.ref x, .str name t], []⟩) _ _ _
  unfold Builtin.«object.__getattribute__»
  refine wpAny_bind (wpAny_pure ?_)
  refine wpAny_bind (wpAny_pure (wpAny_bind (L0.at (wpAny_bind (L3.at (wpAny_pure ?_))))))
  show wpAny _ _ (handedOut v) _ _ _
  rw [handedOut_of hh]; exact wpAny_pure h
section
variable {prog : Program} {w : World} {A₀ : Around} {E : Value → Shared → Prop} {s' : Shared} {base g g₀ G : Heap} {outer : List Env} {L a e C : Addr} {m : Str → Option Value} {name : Str} {scope : Scope} {cd : Value}
  {why n : Str} {b₀ : Stmt} {suite : List Stmt} {pos np : Pos} {rest : List ExceptHandler} {Q : Flow → Shared → Prop} {news : List (Addr × Obj)} {KF : Frag}
  {p : Program} {loose : List Str} {mean : ExcName → Option Value} {mg mb : Str → Option Value} {x : Str}
/-- a fault of the project's own class is caught, its dict kept -/
theorem caught_F (R : RaisedF base G (envOf name scope L a cd :: outer) e C why news s'.heap) (F : Fr g L G m) (K : Below A₀ base outer g) (hsm : G.UpToSlots s'.heap) (XB : KF.In base) (TB : Top p loose mean mg mb base)
    (D : KtsDicts (outer.filterMap (·.frame)) g) (T0 : KtsTurn (outer.filterMap (·.frame)) g₀ g)
    (ex : nsIn KF mainGlobals x = some (some (.ref C))) (q : ktsIn KF C "BaseException" = true)
    (k : ∀ h' g' tk dx es nd oe tw', KtsTurn (outer.filterMap (·.frame)) g₀ g' → Fr g' L h' (fun y => if y = n then some (.ref e) else m y) → News g' L h' ((e, oe) :: (dx, dictOf es nd) :: news) → oe.cls = .ref C → oe.dict = some dx → (∃ ws, oe.data = .fields ws) →
      getL (Str.ofString "why") es = some (some (.str why tw')) → Below A₀ base outer g' → KF.In g' → Top p loose mean mg mb g' → KtsDicts (outer.filterMap (·.frame)) g' →
      wpAny (model prog w) ((A₀.deeper (envOf name scope L a cd)).mark (some (.ref e))) (execs (b₀ :: suite) (envOf name scope L a cd))
        (fun f s₄ => wpAny (model prog w) (A₀.deeper (envOf name scope L a cd)) (do bindName (envOf name scope L a cd) n .none; unbindBehindTheSuite (envOf name scope L a cd) n pos) (fun _ s₅ => Q f s₅) E s₄)
        (AsSuiteRaised (model prog w) ((A₀.deeper (envOf name scope L a cd)).mark (some (.ref e))) (envOf name scope L a cd) n pos (notedBy (model prog w) ((A₀.deeper (envOf name scope L a cd)).mark (some (.ref e))) (envOf name scope L a cd) (cameBackBy (model prog w) (A₀.deeper (envOf name scope L a cd)) (envOf name scope L a cd) E)))
        { s' with heap := h', toks := tk })
    (hk : scope.kind = .function := by rfl) (hlo : (envOf name scope L a cd).kindOf n = some .local := by rfl) (hx : (envOf name scope L a cd).kindOf x = some .globalImplicit := by rfl) (hd : (x == ("__debug__" : Str)) = false := by decide) :
    wpAny (model prog w) (A₀.deeper (envOf name scope L a cd)) (noteFrame (.ref e) (envOf name scope L a cd))
      (fun _ s₂ => wpAny (model prog w) (A₀.deeper (envOf name scope L a cd)) (setFlight (.ref e) none) (fun _ s₃ =>
        wpAny (model prog w) (A₀.deeper (envOf name scope L a cd)) (handleBy (.ref e) (envOf name scope L a cd) (.ExceptHandler (some (.Name x np)) (some n) (b₀ :: suite) pos :: rest)) Q E s₃) E s₂) E s' := by
  obtain ⟨t, tw, dx, es, nd, tw', ⟨⟨B, hB, hBG, hl, hfl, hnew⟩, htup⟩, hdict, hwhy⟩ := R
  have hL : B.get? L = none := by
    obtain ⟨_, ⟨L', _, hf, hn', _⟩, _⟩ := hfl.2.2.1
    obtain rfl : L = L' := Option.some.inj hf
    exact hn'
  refine Calmly.any (calm_note _ _) ?_
  refine wpAny_looks_onW (Around.frames_deeper K.stack) rfl hfl fun h₄ hheld₄ hsm₄ dk₄ => ?_
  refine Calmly.any (calm_setFlight _ _) ?_
  refine wpAny_landsW hheld₄ fun h₅ hheld hsm₅' dk₅ => ?_
  replace dk₅ : DK s'.heap h₅ := DK.trans dk₄ dk₅
  have hsm₅ := hsm₄.trans hsm₅'
  obtain ⟨g₅, T₅, F₅, K₅⟩ := kts_ground K F hBG hheld.1 (hsm.trans hsm₅)
  have X₅ : KF.In g₅ := XB.keeps K₅.stays
  have P₅ : TopRead p loose mg mb g₅ := topRead_of (TB.keeps K₅.stays)
  obtain ⟨ob, hob, hobc⟩ := hheld.there
  obtain ⟨nm, q', N, bs, bm, hdct, sn, sub, ab, col, dd, k0, k1, k2, k3, k5, newId, hC, hbase, hbT⟩ := kts_cls X₅ q
  have hC₅ := F₅.keep _ _ hC
  refine wpAny_handleBy_cons (codeAny_handlers_test (name_K F₅ X₅ P₅ ex ?_ hk hx hd)) (by intro q; cases q)
  refine wpAny_excMatches_sub_self hC₅ hob hobc hbase (codeAny_handlers_suite_as ?_)
  refine Calmly.any (calm_setFlight _ _) ?_
  refine lands_againW hheld fun h₆ hfl₆ hsm₆ dk₆ => ?_
  replace dk₆ : DK s'.heap h₆ := DK.trans dk₅ dk₆
  obtain ⟨g₆, T₆, F₆, K₆⟩ := kts_ground K F hBG hfl₆.1 ((hsm.trans hsm₅).trans hsm₆)
  obtain ⟨oe, ws, hoe, hoec, hoed, hoe0⟩ := hfl₆.first
  obtain ⟨od, hod, hodd⟩ := hdict.dk dk₆
  obtain rfl : od = oe := Option.some.inj (hod.symm.trans hoe)
  have ne₆ : g₆.get? e = none := T₆.none_ _ (kts_fresh F hBG hfl₆.2.1 fun o ho m => by
    obtain ⟨_, o', ho', hd⟩ := K.frames.mem m
    rw [ho] at ho'
    cases ho'
    obtain ⟨sl, hs⟩ := ((hsm.trans hsm₅).trans hsm₆) _ _ (F.keep _ _ ho) hd
    rw [hoe] at hs
    cases hs
    exact hd _ hoed)
  have N₆ := News.more F₆ News.nil hoe (fun es n q => by rw [hoed] at q; cases q) ne₆
  have Nl : News g₆ L h₆ ((dx, dictOf es nd) :: news) := fun q hq => ⟨hfl₆.1 _ _ (hl q hq).1, (fun z => by have := (hl q hq).1; rw [z, hL] at this; cases this), T₆.none_ _ (kts_none F.keep (hl q hq).2.1)⟩
  have X₆ : KF.In g₆ := XB.keeps K₆.stays
  have P₆ : Top p loose mean mg mb g₆ := TB.keeps K₆.stays
  have D₆ : KtsDicts (outer.filterMap (·.frame)) g₆ := D.turn T₆
  refine stN F₆ (news := (e, od) :: (dx, dictOf es nd) :: news) (fun q hq => (List.mem_cons.mp hq).elim (fun z => z ▸ N₆ _ (.head _)) (Nl q)) (fun h₇ F₇ N₇ => ?_) hk hlo
  exact k h₇ g₆ _ _ _ _ _ _ (T0.trans T₆) F₇ N₇ hoec hodd ⟨_, hoed⟩ hwhy K₆ X₆ P₆ D₆
end
theorem inst_fault {h : Heap} {x C dx : Addr} {oe od : Obj} (h1 : h.get? x = some oe) (hc : oe.cls = .ref C) (hd : oe.dict = some dx) (hf : ∃ ws, oe.data = .fields ws) (h2 : h.get? dx = some od) : InstAt h x oe C (some od) := by
  obtain ⟨c, d, dt, sl⟩ := oe
  obtain ⟨ws, hw⟩ := hf
  cases hc; cases hd; cases hw
  exact ⟨h1, rfl, rfl, h2⟩
theorem why_44 (w : World) {prog : Program} {A : Around} {E : Value → Shared → Prop} {s : Shared} {x : Addr} {ox : Obj} {es : List DictEntry} {n : Nat} {why : Str} {t : Tok} {expr : Bool} {Q : Value → Shared → Prop} (X : (hd.heap_1 w.params).In s.heap) (I : InstAt s.heap x ox 44 (some (dictOf es n)))
    (hl : getL (Str.ofString "why") es = some (some (.str why t))) (h : Q (.str why t) { s with toks := s.toks + 1 }) : wpAny (model prog w) A (getAttr (.ref x) (Str.ofString "why") expr) Q E s :=
  exc_get X (k44 w) I (by rfl) (by rfl) (findObj_own (attr := none) (by rfl) (by rfl) (by rfl) hl) rfl h
theorem why_56 (w : World) {prog : Program} {A : Around} {E : Value → Shared → Prop} {s : Shared} {x : Addr} {ox : Obj} {es : List DictEntry} {n : Nat} {why : Str} {t : Tok} {expr : Bool} {Q : Value → Shared → Prop} (X : (hd.heap_1 w.params).In s.heap) (I : InstAt s.heap x ox 56 (some (dictOf es n)))
    (hl : getL (Str.ofString "why") es = some (some (.str why t))) (h : Q (.str why t) { s with toks := s.toks + 1 }) : wpAny (model prog w) A (getAttr (.ref x) (Str.ofString "why") expr) Q E s :=
  exc_get X (k56 w) I (by rfl) (by rfl) (findObj_own (attr := none) (by rfl) (by rfl) (by rfl) hl) rfl h

theorem part_31 : True := by
  w_top off
  trivial
/-! ## what is due is what is written -/
noncomputable def wrOf (P : Pk) : Str × List Int := match writeOf P with
  | .ok o => (tNone, o)
  | .error e => (e.2, [])
theorem headsOf_fine (prot : Int) : ∀ {hs : List Hd}, HdsFine 0 hs → (∃ h ∈ hs, ¬ hdOk h) → headsOf prot hs = .error tHd
  | [], _, e => by obtain ⟨h, hm, _⟩ := e; cases hm
  | h :: r, f, e => by
    have fr : HdsFine 0 r := fun x hx => f x (.tail _ hx)
    rw [headsOf]
    by_cases h1 : hdOk h
    · have e' : ∃ h ∈ r, ¬ hdOk h := by
        obtain ⟨x, hm, hb⟩ := e
        rcases List.mem_cons.mp hm with rfl | hm
        · exact absurd h1 hb
        · exact ⟨x, hm, hb⟩
      rw [if_neg (fun h => h h1)]
      have hr : 0 ≤ nxt prot r ∧ nxt prot r < 256 := by
        cases r with
        | nil => obtain ⟨x, hm, _⟩ := e'; cases hm
        | cons a b => exact (fr a (.head _)).1
      rw [if_neg (fun h => h hr), headsOf_fine prot fr e']
      rfl
    · rw [if_pos h1]
theorem headsOf_good (prot : Int) : ∀ {hs : List Hd}, HdsFine 0 hs → (∀ h ∈ hs, hdOk h) → (0 ≤ prot ∧ prot < 256) → headsOf prot hs = .ok (payL prot hs)
  | [], _, _, _ => rfl
  | h :: r, f, e, hp => by
    have fr : HdsFine 0 r := fun x hx => f x (.tail _ hx)
    rw [headsOf, if_neg (fun h' => h' (e h (.head _))), if_neg (fun h' => h' (nxt_in hp fr)), headsOf_good prot fr (fun x hx => e x (.tail _ hx)) hp]
    rfl
theorem headsOf_unfit (prot : Int) : ∀ {hs : List Hd}, HdsFine 0 hs → (∀ h ∈ hs, hdOk h) → hs ≠ [] → ¬ (0 ≤ prot ∧ prot < 256) → headsOf prot hs = .error tFits
  | [], _, _, e, _ => absurd rfl e
  | [h], f, e, _, hp => by rw [headsOf, if_neg (fun h' => h' (e h (.head _)))]; exact if_pos hp
  | h :: a :: r, f, e, _, hp => by
    have fr : HdsFine 0 (a :: r) := fun x hx => f x (.tail _ hx)
    rw [headsOf, if_neg (fun h' => h' (e h (.head _))), if_neg (fun h' => h' (fr a (.head _)).1), headsOf_unfit prot fr (fun x hx => e x (.tail _ hx)) (by intro h; cases h) hp]
    rfl
theorem whole_octs {W len k hop src tgt : Int} (h1 : 0 ≤ len ∧ len < 256 ^ 2) (h2 : 0 ≤ k ∧ k < 256 ^ 1) (h3 : 0 ≤ hop ∧ hop < 256 ^ 1) (h4 : 0 ≤ src ∧ src < 256 ^ 16) (h5 : 0 ≤ tgt ∧ tgt < 256 ^ 16) :
    octs (((((W * 256 ^ 2 + len) * 256 ^ 1 + k) * 256 ^ 1 + hop) * 256 ^ 16 + src) * 256 ^ 16 + tgt) 40 = (octs W 4 ++ octs len 2) ++ (octs k 1 ++ octs hop 1) ++ octs src 16 ++ octs tgt 16 := by
  rw [show (40 : Nat) = 24 + 16 from rfl, octs_app 16 24 _ _ h5.1 h5.2, show (24 : Nat) = 8 + 16 from rfl, octs_app 16 8 _ _ h4.1 h4.2, show (8 : Nat) = 7 + 1 from rfl, octs_app 1 7 _ _ h3.1 h3.2, show (7 : Nat) = 6 + 1 from rfl, octs_app 1 6 _ _ h2.1 h2.2,
    show (6 : Nat) = 4 + 2 from rfl, octs_app 2 4 _ _ h1.1 h1.2]
  simp only [List.append_assoc]
theorem wrOf_err {P : Pk} {e : Addr × Str} (h : writeOf P = .error e) : wrOf P = (e.2, []) := by unfold wrOf; rw [h]
theorem wrOf_ok {P : Pk} {o : List Int} (h : writeOf P = .ok o) : wrOf P = (tNone, o) := by unfold wrOf; rw [h]
theorem due_wr (P : Pk) (hf : HdsFine 0 P.heads) (hn : P.heads.length ≤ 4) (hd : P.data.length ≤ 20) : dueW P = wrOf P := by
  by_cases hx : P.dscp > 63 ∨ P.ecn > 3 ∨ P.flow ≥ 1048576
  · rw [wrOf_err (e := (44, tFld)) (by unfold writeOf; rw [if_pos (by omega)])]
    unfold dueW; rw [if_pos hx]
  have hx' : ¬ (P.dscp > 63 ∨ P.ecn > 3 ∨ P.flow > 1048575) := by omega
  by_cases hb : ∃ h ∈ P.heads, ¬ hdOk h
  · obtain ⟨h, hm, hn'⟩ := id hb
    rw [due_head hx hm hn', wrOf_err (e := (44, tHd)) (by unfold writeOf; rw [if_neg hx', headsOf_fine P.prot hf hb])]
  have hok : ∀ h ∈ P.heads, hdOk h := fun h hm => Decidable.byContradiction fun hn => hb ⟨h, hm, hn⟩
  have hpl := payL_len P.prot hf
  by_cases hp : 0 ≤ P.prot ∧ P.prot < 256
  · have hg := headsOf_good P.prot hf hok hp
    have hnx := nxt_in hp hf
    by_cases hfit : PkFits P
    · rw [due_good hx hok hfit]
      obtain ⟨f0, f1, f2, f3, f4, f5, f6⟩ := hfit
      have e128 : (2 : Int) ^ 128 = 256 ^ 16 := by decide +kernel
      rw [e128] at f0 f1
      rw [wrOf_ok (o := octL P)]
      unfold writeOf
      rw [if_neg hx', hg]
      show (if _ then _ else _) = _
      rw [if_neg (by omega), if_neg (fun h => by
        rcases h with h | h | h | h | h | h | h
        · omega
        · omega
        · omega
        · exact h hnx
        · exact h f3
        · exact h f0
        · exact h f1)]
      have w := whole_octs (W := ((6 * 64 + P.dscp) * 4 + P.ecn) * 2 ^ 20 + P.flow) (len := (((payL P.prot P.heads).length + P.data.length : Nat) : Int)) (k := nxt P.prot P.heads) (hop := P.hop) (src := P.src) (tgt := P.tgt) (by omega) (by omega) (by omega) f0 f1
      unfold octL wholeOf
      rw [e128, List.length_append, show (65536 : Int) = 256 ^ 2 from rfl]
      have w' := w
      rw [show (256 : Int) ^ 1 = 256 from rfl] at w'
      rw [w']
    · rw [due_fits hx hok hfit, wrOf_err (e := (44, tFits))]
      unfold writeOf
      rw [if_neg hx', hg]
      show (if _ then _ else _) = _
      have e128 : (256 : Int) ^ 16 = 2 ^ 128 := by decide +kernel
      rw [if_neg (by omega), if_pos]
      refine Decidable.byContradiction fun hno => hfit ?_
      have h3 : ¬ (P.dscp < 0 ∨ P.ecn < 0 ∨ P.flow < 0) := fun h => hno (by
        rcases h with h | h | h
        · exact .inl h
        · exact .inr (.inl h)
        · exact .inr (.inr (.inl h)))
      have h4 : 0 ≤ P.hop ∧ P.hop < 256 := Decidable.byContradiction fun h => hno (.inr (.inr (.inr (.inr (.inl h)))))
      have h5 : 0 ≤ P.src ∧ P.src < 256 ^ 16 := Decidable.byContradiction fun h => hno (.inr (.inr (.inr (.inr (.inr (.inl h))))))
      have h6 : 0 ≤ P.tgt ∧ P.tgt < 256 ^ 16 := Decidable.byContradiction fun h => hno (.inr (.inr (.inr (.inr (.inr (.inr h))))))
      rw [e128] at h5 h6
      exact ⟨h5, h6, hp, h4, ⟨by omega, by omega⟩, ⟨by omega, by omega⟩, ⟨by omega, by omega⟩⟩
  · rw [due_fits hx hok (fun h => hp h.2.2.1), wrOf_err (e := (44, tFits))]
    unfold writeOf
    rw [if_neg hx']
    by_cases hnil : P.heads = []
    · rw [show headsOf P.prot P.heads = .ok [] from by rw [hnil]; rfl]
      show (if _ then _ else _) = _
      rw [if_neg (by show ¬ 0 + P.data.length > 65535; omega), if_pos]
      exact .inr (.inr (.inr (.inl (by rw [hnil]; exact hp))))
    · rw [headsOf_unfit P.prot hf hok hnil hp]

theorem part_32 : True := by
  w_top off
  trivial
/-! ## what the project writes -/
/-- a call, from the law's own frame, of a def that holds a try -/
def CalledT (w : World) (f : Addr) (d u : Nat) (args : List Value) (news : List (Addr × Obj)) (R : Value → List (Addr × Obj) → Prop) : Prop :=
  ∀ (mean : ExcName → Option Value) (mg mb : Str → Option Value) (dp un : Nat) (gd : Option (List Code)) (cn : Str) (cs : Scope) (a : Addr) (ccd : Value) (A₀ : Around)
    (base h₀ : Heap) (L : Addr) (m : Str → Option Value) (s : Shared) (Q E : Value → Shared → Prop),
    Below A₀ base [] h₀ → Fr h₀ L s.heap m → (hd.heap_1 w.params).In h₀ → News h₀ L s.heap news → Top vw (looseW vw []) mean mg mb h₀ → cs.kind = .function → (hd.heap_1 w.params).In base → Top vw (looseW vw []) mean mg mb base →
    dp + d < recursionLimit → un + u < cLine →
    (∀ v tl h' tk', Fr h₀ L h' m → News h₀ L h' (tl ++ news) → R v tl → Q v { s with heap := h', toks := tk' }) →
    wpAny (model PySem.Challenge.rw_pf0340_01.row.prog w) (ktrTop dp un gd cn cs L a ccd [] []) (call (.ref f) args) Q E s
theorem CalledT.use {w : World} {f : Addr} {d u : Nat} {args : List Value} {news : List (Addr × Obj)} {R : Value → List (Addr × Obj) → Prop} {mean : ExcName → Option Value} {mg mb : Str → Option Value} {dp un : Nat} {gd : Option (List Code)} {cn : Str} {cs : Scope} {a : Addr} {ccd : Value} {A₀ : Around}
    {base h₀ : Heap} {L : Addr} {m : Str → Option Value} {s : Shared} {Q E : Value → Shared → Prop} (B : Below A₀ base [] h₀) (F : Fr h₀ L s.heap m) (X : (hd.heap_1 w.params).In h₀) (N : News h₀ L s.heap news) (T : Top vw (looseW vw []) mean mg mb h₀) (hk : cs.kind = .function)
    (XB : (hd.heap_1 w.params).In base) (TB : Top vw (looseW vw []) mean mg mb base) (c : CalledT w f d u args news R) (hd : dp + d < recursionLimit) (hu : un + u < cLine)
    (ret : ∀ v tl h' tk', Fr h₀ L h' m → News h₀ L h' (tl ++ news) → R v tl → Q v { s with heap := h', toks := tk' }) :
    wpAny (model PySem.Challenge.rw_pf0340_01.row.prog w) (ktrTop dp un gd cn cs L a ccd [] []) (call (.ref f) args) Q E s := c _ _ _ _ _ _ _ _ _ _ _ _ _ _ _ _ _ _ B F X N T hk XB TB hd hu ret
section
variable {prog : Program} {w : World} {A : Around} {h₀ : Heap} {L : Addr} {m : Str → Option Value} {env : Env} {elt : PySem.Expr} {x x₂ : Str} {scope : Scope} {cl : List (Str × Addr)} {s : Shared} {S : List (Addr × Obj) → Prop} {P : Nat → Value → Prop} {Fin : List Value → List (Addr × Obj) → Prop} {news : List (Addr × Obj)}
theorem comp_invP {n : Nat} (J : Nat → List Value → List (Addr × Obj) → Prop) (h0 : J 0 [] news)
    (turn : ∀ i ys nw v, i < n → P i v → J i ys nw → ∃ (t : Addr) (ot : Obj) (v₁ v₂ : Value) (nt : Nat), v = .ref t ∧ (t, ot) ∈ nw ∧ ot.cls = .type "tuple" ∧ ot.data = .seq #[v₁, v₂] nt ∧
      ∀ I oI C oC D m₂ h tk (E' : Value → Shared → Prop), LCg.NsObj oC m₂ → m₂ x = some v₁ → m₂ x₂ = some v₂ → Fr h₀ L h m → News h₀ L h ((I, oI) :: (C, oC) :: (D, LCg.lst ys) :: nw) → LCg.Off3 I C D nw → ((@Ne Nat I C) ∧ (@Ne Nat I D) ∧ (@Ne Nat C D)) →
      wpAny (model prog w) A (eval elt (compEnvC scope cl C env)) (LCg.CompEnd h₀ L m { s with heap := h, toks := tk } I oI C oC D (LCg.lst ys) S (fun y nw' => J (i + 1) (ys ++ [y]) nw')) E' { s with heap := h, toks := tk })
    (fin : ∀ ys nw, J n ys nw → Fin ys nw) : LCp.CompRestP prog w A h₀ L m env elt x x₂ scope cl s S P Fin n 0 [] news := by
  have key : ∀ (j i : Nat) (ys : List Value) (nw : List (Addr × Obj)), i + j = n → J i ys nw → LCp.CompRestP prog w A h₀ L m env elt x x₂ scope cl s S P Fin j i ys nw := by
    intro j
    induction j with
    | zero => intro i ys nw hi hj; exact LCp.CompRestP.zero (fin ys nw (by rw [← hi]; exact hj))
    | succ j ih =>
      intro i ys nw hi hj
      refine LCp.CompRestP.succ fun v hv => ?_
      obtain ⟨t, ot, v₁, v₂, nt, e1, e2, e3, e4, k⟩ := turn i ys nw v (by omega) hv hj
      refine ⟨t, ot, v₁, v₂, nt, e1, e2, e3, e4, fun I oI C oC D m₂ h tk E' hC hx hx2 F N off ne => ?_⟩
      refine wpAny_mono (k I oI C oC D m₂ h tk E' hC hx hx2 F N off ne) (fun y s₂ hq => ?_) fun _ _ e => e
      obtain ⟨h', tk', nw', e, F', N', off', hS, hj'⟩ := hq
      exact ⟨h', tk', nw', e, F', N', off', hS, ih (i + 1) _ _ (by omega) hj'⟩
  exact key n 0 [] news (by omega) h0
end
theorem said_44 : True := by
  k_with "my:eval ListComp" => (k_here; (fail_if_success plain_pass); (with_reducible show wpAny _ _ (eval (PySem.Expr.ListComp (PySem.Expr.Tuple _ _ _) _ _ _) _) _ _ _); k_dflt (refine LCp.ListComp_P (F₀ := by k_asm) (by with_unfolding_all rfl) (by decide) (by rfl) (by decide) (by rfl) (by rfl) (by decide) ?_))
  k_with "my:#k_all" => (with_reducible assumption)
  k_with "my:SrcLP" => ((with_reducible show LCp.SrcLP _ _ _ _ _ _ _ _ _ _ _ _ _ _ _); refine Stop.intro ?_)
  trivial
theorem hdsLen_le : ∀ {hs : List Hd}, HdsFine 0 hs → hdsLen hs ≤ 32 * hs.length
  | [], _ => Nat.le_refl _
  | h :: r, f => by
    have := hdsLen_le fun x hx => f x (.tail _ hx)
    obtain ⟨_, _, g3, _⟩ := f h (.head _)
    simp only [hdsLen, List.map_cons, List.sum_cons, List.length_cons] at *
    omega
theorem write_44 {P : Pk} {C : Addr} {why : Str} (hf : HdsFine 0 P.heads) (hn : P.heads.length ≤ 4) (hd : P.data.length ≤ 20) (h : writeOf P = .error (C, why)) : C = 44 := by
  unfold writeOf at h
  by_cases h1 : P.dscp > 63 ∨ P.ecn > 3 ∨ P.flow > 1048575
  · rw [if_pos h1] at h; cases h; rfl
  rw [if_neg h1] at h
  cases q : headsOf P.prot P.heads with
  | error e => rw [q] at h; cases h; rfl
  | ok o =>
    have hl := (headsOf_ok q fun x hx => (hf x hx).2.1).1
    have hz := hdsLen_le hf
    rw [q] at h
    change (if o.length + P.data.length > 65535 then _ else if _ then _ else _) = _ at h
    rw [if_neg (by omega)] at h
    split at h
    · cases h; rfl
    · cases h
theorem off1_ne {D : Addr} : ∀ {l : List (Addr × Obj)}, LCg.Off1 D l → ∀ p ∈ l, p.1 ≠ D
  | [], _, _, h => nomatch h
  | q :: r, o, p, h => (List.mem_cons.mp h).elim (fun e => e ▸ o.1) (off1_ne o.2 p)
theorem law_written_c (w : World) (news : List (Addr × Obj)) (P : Pk) (lf lh ld : Addr) (vf vh vd : List Value) (nf nh nd : Nat) (hmf : (lf, listOf vf.toArray nf) ∈ news) (hif : IntsAre vf (fieldsOf P)) (hmh : (lh, listOf vh.toArray nh) ∈ news) (hdh : DatAll news vh (P.heads.map datLd))
    (hmd : (ld, listOf vd.toArray nd) ∈ news) (hid : IntsAre vd P.data) (hn : P.heads.length ≤ 4) (hf : HdsFine 0 P.heads) (hd : P.data.length ≤ 20) (hdi : KBa.In P.data) (hb4 : Builtin.Int.intBits P.dscp ≤ 1048600) (hb5 : Builtin.Int.intBits P.ecn ≤ 1048600) :
    CalledT w 213 60 800 [.ref lf, .ref lh, .ref ld] news (IsDat (datW (wrOf P)) news) := by
  refine of_heldQ ?_
  simp (disch := (refine anchorQ ?_; k_dflt (
  have hvh := hdh.length
  rw [List.length_map] at hvh
  have hvsz : vh.toArray.size = P.heads.length := by rw [List.size_toArray, hvh]
  have hl62 : P.heads.length < 2 ^ 62 := by omega
  have hfl : (fieldsOf P).length = 7 := rfl
  unfold CalledT
  k_fill
  intro mean mg mb dp un gd cn cs a ccd A₀ base h₀ L m s Q E B F X N T hk XB TB hdd hu hret
  replace XB := Stop.intro XB
  replace TB := Stop.intro TB
  refine wpAny_call ?_
  k_dflt (refine' code_defS0 ?k1 ?k2 ?k3 ?k4 ?k5 ?kA ?k6 ?k7 ?k8 ?k9 ?kB ?_ ?cK ?c2 ?c3 ?c4 ?c5; (case kA => exact rfl); (case k2 => exact F); (case k1 => exact B); (case k3 => exact X); (case k4 => exact N); (case k5 => exact T); (case k6 => k_is); (case k7 => k_is); (case k8 => show dp < recursionLimit; omega); (case k9 => first | exact binds_K (by k_in) rfl (by k_is) rfl rfl rfl | exact BindsTo.of_eq rfl); (case kB => exact locs rfl); (case cK => exact hk); (case c2 => exact rfl); (case c3 => exact rfl); (case c4 => exact rfl); (case c5 => decide); k_whole; intro g' L' h' FG' F' N' B' X' T' D'; (try dsimp only); (try k_lift B'); (try k_extra "my:my fold"))
  show (let Aq : Around := _; wpAny _ Aq _ _ _ _)
  intro Aq
  rename Fr _ _ _ _ => F0
  rename News _ _ _ _ => N0
  have N1 := put (put (put N0 hmf) (.tail _ hmh)) (.tail _ (.tail _ hmd))
  k_steps
  refine Stop.out ?_
  rename Fr _ _ _ _ => F5
  rename News _ _ _ _ => N5
  refine KBa.make_K F5 N5 rfl ⟨_, (N5 _ (.head _)).1, rfl, _, rfl⟩ hid hdi (by omega) fun h8 t8 k8 F8 N8 hin8 => ?_
  k_steps
  refine Stop.out ?_
  rename Fr _ _ _ _ => F6
  rename News _ _ _ _ => N6
  have hd9 : ∀ p ∈ news, p.1 ≠ d9 := fun p hp => Nat.ne_of_lt (lt9 p (by k_extra "my:my tail"))
  refine LCp.SrcLP.ledger rfl F6 N6 (k := nh) (by k_mem) (by rw [List.size_toArray, hvh, sizeLine_eq]; omega) fun g =>
    comp_invP (fun i ys nw => ∃ add, nw = add ++ _ ∧ DatAll add ys ((P.heads.take i).map datHd) ∧ ∀ p ∈ add, p.1 ≠ d9) ⟨[], rfl, .nil, fun _ h => nomatch h⟩ ?_ ?_
  · intro i ys nw v hi' hv hpt6
    (try k_extra "my:my fold")
    obtain ⟨add, rfl, hda, hne⟩ := hpt6
    obtain ⟨h3, hh3, hD⟩ := heads_ldat hdh (by simpa using hv)
    obtain ⟨a2, n2, t2, b2, ws, c2, rfl, ma2, mb2, hws⟩ := datLd_inv hD
    obtain ⟨g1, g2, g3, g4⟩ := hf _ (List.mem_of_getElem? hh3)
    refine ⟨a2, _, .int h3.1 t2, .ref b2, n2, rfl, by k_extra "my:my tail", rfl, rfl, fun I oI C oC D m₂ h tk E' hC hx hx2 F N off ne => ?_⟩
    have N := put N (by k_extra "my:my tail" : (b2, listOf ws.toArray c2) ∈ _)
    k_steps
    refine Stop.out ?_
    rename Fr _ _ _ _ => F7
    rename News _ _ _ _ => N7
    refine KBa.make_K F7 N7 rfl ⟨_, (N7 _ (by k_mem : (b2, listOf ws.toArray c2) ∈ _)).1, rfl, _, rfl⟩ hws g2 (by omega) fun h5 t5 k5 F5 N5 hin5 => ?_
    k_steps
    rename (_ : Nat) < _ ∧ _ ∧ _ ∧ _ ∧ AllLt _ (add ++ _) => hlast
    rename Fr _ _ _ _ => F4
    rename News _ _ _ _ => N4
    refine LCg.CompEnd.intro F4 N4 (_ :: (add ++ _)) (List.forall_mem_cons.mpr ⟨by k_mem, List.forall_mem_cons.mpr ⟨by k_mem, List.forall_mem_cons.mpr ⟨by k_mem, List.forall_mem_cons.mpr ⟨.head _, fun p hp => by k_extra "my:my tail"⟩⟩⟩⟩) ⟨⟨by k_ne, by k_ne, by k_ne⟩, off⟩ (.inr ⟨_, by k_extra "my:my tail", rfl, _, rfl⟩) ⟨_ :: add, rfl, ?_, List.forall_mem_cons.mpr ⟨Nat.ne_of_gt (allLt_lt hlast.2.2.2.2 (d9, _) (List.mem_append_right _ (.tail _ (.tail _ (.head _))))), hne⟩⟩
    rw [List.take_add_one, hh3, List.map_append]
    exact (hda.mono fun p hp => .tail _ hp).append (.cons (.tuple (.head _) (.cons (.int _ _) (.cons (.bytes _ _) .nil))) .nil)
  · intro ys nw hpt2
    (try k_extra "my:my fold")
    obtain ⟨add, rfl, hda, hne⟩ := hpt2
    intro D h tk F N off
    (try dsimp only)
    have N2 : News _ _ _ ((D, LCg.lst ys) :: (e9, instObj 87 d9) :: (d9, _) :: (lf, listOf vf.toArray nf) :: (add ++ news)) := cb_drop N (List.forall_mem_cons.mpr ⟨.head _, List.forall_mem_cons.mpr ⟨.tail _ (List.mem_append_right _ (.tail _ (.head _))), List.forall_mem_cons.mpr ⟨.tail _ (List.mem_append_right _ (.tail _ (.tail _ (.head _)))), List.forall_mem_cons.mpr ⟨.tail _ (List.mem_append_right _ (by k_mem)), fun p hp => .tail _ ((List.mem_append.mp hp).elim (fun h => List.mem_append_left _ h) fun h => List.mem_append_right _ (by k_extra "my:my tail"))⟩⟩⟩⟩)
    have hall : ∀ p ∈ add ++ news, p.1 ≠ d9 := fun p hp => (List.mem_append.mp hp).elim (hne p) (hd9 p)
    have hDd := neN (off1_ne off _ (List.mem_append_right _ (.tail _ (.tail _ (.head _)))))
    have hfd := ltN (lt9 _ (by k_mem : (lf, listOf vf.toArray nf) ∈ _))
    dsimp only at hDd hfd
    have hsub : ∀ p ∈ news, p ∈ add ++ news := fun p hp => List.mem_append_right _ hp
    rw [hvsz, List.take_length] at hda
    replace hda := hda.mono fun p hp => (List.mem_append_left news hp)
    clear N off
    (try dsimp +zetaDelta only at N2)
    generalize add ++ news = tl at N2 hall hsub hda
    k_steps
    all_goals (
      rename Fr _ _ _ _ => F7
      rename News _ _ _ _ => N7)
    k_dflt (refine' CalledE.use ?k1 F7 ?k3 N7 ?k5 ?k6 (write_ipv6_c w _ _ P ?kp ?kq) trivial ?kd ?ku ?_ ?_)
    k_extra "my:my facts2"
    (case kp => exact ⟨_, _, D, ys, _, _, _, _, _, _, _, _, _, _, _, _, _, _, _, _, _, _, _, _, _, _, _, _, _, _, _, rfl, by k_mem, by k_mem, by k_mem, hda.mono fun p hp => by k_extra "my:my tail"⟩)
    (case kq => exact ⟨fun h hm => (hf h hm).2.1, by have := hdsLen_le hf; omega, hdi, by omega, hb4, hb5⟩)
    · intro v9 tl9 h9 tk9 F9 N9 hpt6
      (try k_extra "my:my fold")
      obtain ⟨o9, t9, ho9, rfl, rfl⟩ := hpt6
      (try dsimp only)
      (try dsimp +zetaDelta only at N9)
      simp only [List.nil_append] at N9
      k_steps
      rw [wrOf_ok ho9] at hret
      exact retAll hret (by k_asm) (by k_asm) (fun p hp => by have hp := hsub p hp; k_extra "my:my tail") (.tuple (.head _) (.cons (.str _ _) (.cons (.bytes _ _) .nil)))
    · intro x9 C9 why9 h9 tk9 g9 hx9 F9 R9 s9
      (try dsimp only)
      obtain rfl := write_44 hf hn hd hx9
      rw [wrOf_err hx9] at hret
      refine caught_F (KF := Mine.hd.heap_1 w.params) (g₀ := g') R9 F9 B' s9 XB TB D' KtsTurn.refl ?ex (k44 w) ?_
      (case ex => k_is)
      intro h8 g8 tk8 dx es nd oe tw' T8 F8 N8 hoc hod hof hwhy K8 X8 P8 D8
      (try dsimp only)
      k_steps
      refine why_44 w (X8.keeps F8.keep) (inst_fault (N8 _ (.head _)).1 hoc hod hof (N8 _ (.tail _ (.head _))).1) hwhy ?_
      k_steps
      exact retAll hret (by k_asm) (by k_asm) (fun p hp => by have hp := hsub p hp; k_extra "my:my tail") (.tuple (.head _) (.cons (.str _ _) (.cons (.bytes _ _) .nil)))))) only [↓heldQ_eq]
theorem said_45 : True := by
  k_with "my:call ref" => (k_here; (fail_if_success plain_pass); (with_reducible show wpAny _ _ (call (Value.ref 213) _) _ _ _); refine Stop.intro ?_)
  trivial

theorem part_33 : True := by
  w_top off
  trivial
/-! ## what the project reads -/
theorem law_read_c (w : World) (news : List (Addr × Obj)) (l : Addr) (vs : List Value) (n : Nat) (ks : List Int) (hm : (l, listOf vs.toArray n) ∈ news) (hi : IntsAre vs ks) (hks : KBa.In ks) (hlen : ks.length ≤ 240) :
    CalledT w 234 60 800 [.ref l] news (IsDat (datR (readD ks)) news) := by
  refine of_heldQ ?_
  simp (disch := (refine anchorQ ?_; k_dflt (
  unfold CalledT
  k_fill
  intro mean mg mb dp un gd cn cs a ccd A₀ base h₀ L m s Q E B F X N T hk XB TB hdd hu hret
  replace XB := Stop.intro XB
  replace TB := Stop.intro TB
  refine wpAny_call ?_
  k_dflt (refine' code_defS0 ?k1 ?k2 ?k3 ?k4 ?k5 ?kA ?k6 ?k7 ?k8 ?k9 ?kB ?_ ?cK ?c2 ?c3 ?c4 ?c5; (case kA => exact rfl); (case k2 => exact F); (case k1 => exact B); (case k3 => exact X); (case k4 => exact N); (case k5 => exact T); (case k6 => k_is); (case k7 => k_is); (case k8 => show dp < recursionLimit; omega); (case k9 => first | exact binds_K (by k_in) rfl (by k_is) rfl rfl rfl | exact BindsTo.of_eq rfl); (case kB => exact locs rfl); (case cK => exact hk); (case c2 => exact rfl); (case c3 => exact rfl); (case c4 => exact rfl); (case c5 => decide); k_whole; intro g' L' h' FG' F' N' B' X' T' D'; (try dsimp only); (try k_lift B'); (try k_extra "my:my fold"))
  show (let Aq : Around := _; wpAny _ Aq _ _ _ _)
  intro Aq
  rename Fr _ _ _ _ => F0
  rename News _ _ _ _ => N0
  have N1 := put N0 hm
  k_steps
  refine Stop.out ?_
  rename Fr _ _ _ _ => F5
  rename News _ _ _ _ => N5
  refine KBa.make_K F5 N5 rfl ⟨_, (N5 _ (.head _)).1, rfl, _, rfl⟩ hi hks (by omega) fun h8 t8 k8 F8 N8 hin8 => ?_
  k_steps
  rename Fr _ _ _ _ => F7
  rename News _ _ _ _ => N7
  k_dflt (refine' CalledE.use ?k1 F7 ?k3 N7 ?k5 ?k6 (read_ipv6_c w _ _ ks _ (KBa.ints_make hks) (by omega)) trivial ?kd ?ku ?_ ?_)
  k_extra "my:my facts2"
  · intro v9 tl9 h9 tk9 F9 N9 hpt6
    (try k_extra "my:my fold")
    obtain ⟨P, hP, e9, d9, l9, vs9, n9, _, _, _, _, _, _, _, _, _, _, _, _, _, _, _, _, _, _, u0, u1, u2, u3, u5, u6, u7, u8, rfl, m1, m2, m3, hda⟩ := hpt6
    (try dsimp only)
    obtain ⟨hW, hok⟩ := read_write hks (by omega) hP
    rw [show readD ks = .ok (P, ks.take (40 + whole (cut ks 4 6)).toNat) from by unfold readD; rw [hP]; rfl] at hret
    have hsub : ∀ p ∈ news, p ∈ tl9 ++ (l, listOf vs.toArray n) :: news := fun p hp => List.mem_append_right _ (.tail _ hp)
    have N9 := put (put (put N9 m3) (.tail _ m1)) (.tail _ (.tail _ m2))
    k_steps
    rename Fr _ _ _ _ => F6
    rename News _ _ _ _ => N6
    k_dflt (refine' CalledE.use ?k1 F6 ?k3 N6 ?k5 ?k6 (write_ipv6_c w _ _ P ?kp hok) trivial ?kd ?ku ?_ ?_)
    k_extra "my:my facts2"
    (case kp => exact ⟨_, _, l9, vs9, n9, _, _, _, _, _, _, _, _, _, _, _, _, _, _, _, _, _, _, _, _, _, _, _, _, _, _, rfl, by k_mem, by k_mem, by k_mem, hda.mono fun p hp => by k_extra "my:my tail"⟩)
    · intro v5 tl5 h5 tk5 F5 N5 hpt6
      (try k_extra "my:my fold")
      obtain ⟨o5, t5, ho5, rfl, rfl⟩ := hpt6
      obtain rfl : o5 = _ := Except.ok.inj (ho5.symm.trans hW)
      (try dsimp only)
      (try dsimp +zetaDelta only at N5)
      simp only [List.nil_append] at N5
      k_steps
      exact retAll hret (by k_asm) (by k_asm) (fun p hp => by have hp := hsub p hp; k_extra "my:my tail") (.tuple (.head _) (.cons (.str _ _) (.cons (.list (.tail _ (.head _)) (.cons (.list (.tail _ (.tail _ (.head _))) (ints_dat (by k_extra "my:my ints7"))) (.cons (.list (by k_mem : (l9, listOf vs9.toArray n9) ∈ _) (hda.mono fun p hp => List.mem_append_left _ (by k_extra "my:my tail"))) (.cons (.bytes _ _) (.cons (.bytes _ _) .nil))))) .nil)))
    · intro x5 C5 why5 h5 tk5 g5 hx5
      rw [hW] at hx5; cases hx5
  · intro x9 C9 why9 h9 tk9 g9 hx9 F9 R9 s9
    (try dsimp only)
    obtain ⟨rfl, hx9⟩ := hx9
    rw [show readD ks = .error why9 from by unfold readD; rw [hx9]; rfl] at hret
    refine caught_F (KF := Mine.hd.heap_1 w.params) (g₀ := g') R9 F9 B' s9 XB TB D' KtsTurn.refl ?ex (k56 w) ?_
    (case ex => k_is)
    intro h8 g8 tk8 dx es nd oe tw' T8 F8 N8 hoc hod hof hwhy K8 X8 P8 D8
    (try dsimp only)
    k_steps
    refine why_56 w (X8.keeps F8.keep) (inst_fault (N8 _ (.head _)).1 hoc hod hof (N8 _ (.tail _ (.head _))).1) hwhy ?_
    k_steps
    exact retAll hret (by k_asm) (by k_asm) (fun p hp => by k_extra "my:my tail") (.tuple (.head _) (.cons (.str _ _) (.cons (.list (.tail _ (.head _)) .nil) .nil)))))) only [↓heldQ_eq]
theorem said_46 : True := by
  k_with "my:call ref" => (k_here; (fail_if_success plain_pass); (with_reducible show wpAny _ _ (call (Value.ref 234) _) _ _ _); refine Stop.intro ?_)
  trivial

theorem part_34 : True := by
  w_top off
  trivial
/-! ## two values of one datum are not unequal (the library's comparison of data knows no bytes) -/
mutual
noncomputable def ddep : Dat → Nat
  | .tuple ds => ddeps ds + 1
  | .list ds => ddeps ds + 1
  | _ => 0
noncomputable def ddeps : List Dat → Nat
  | [] => 0
  | d :: ds => max (ddep d) (ddeps ds)
end
theorem ddeps_le {n : Nat} : ∀ {ds : List Dat}, (∀ d ∈ ds, ddep d ≤ n) → ddeps ds ≤ n
  | [], _ => by rw [ddeps]; exact Nat.zero_le _
  | d :: ds, h => by rw [ddeps]; exact Nat.max_le.mpr ⟨h d (.head _), ddeps_le fun e he => h e (.tail _ he)⟩
theorem eqAt_bytes {A : Around} {s : Shared} (b : Array UInt8) (t u : Tok) : SeqAt.EqAt A s (.bytes b t) (.bytes b u) true := fun prog w E Q h => by
  unfold eqBool
  refine wpAny_holding ?_
  refine wpAny_ite_split (fun _ => wpAny_bind (wpAny_rule (wpAny_pure h))) (fun _ => ?_)
  exact wpAny_bind (eq_bytes (by rw [beq_self_eq_true]; exact wpAny_truthy_bool h))
theorem all_true (n : Nat) : (List.range n).all (fun _ => true) = true := by simp
mutual
theorem eqAt_dat {led : List (Addr × Obj)} : ∀ (d : Dat) (A : Around) (s : Shared) (v v' : Value), (∀ p ∈ led, s.heap.get? p.1 = some p.2) → DatIn led v d → DatIn led v' d → A.units + ddep d < cLine → SeqAt.EqAt A s v v' true
  | .none, A, s, _, _, _, x, y, _ => by cases x; cases y; exact SeqAt.EqAt.same _
  | .bool b, A, s, _, _, _, x, y, _ => by cases x; cases y; exact SeqAt.EqAt.same _
  | .int i, A, s, _, _, _, x, y, _ => by
    cases x with | int _ t => cases y with | int _ u =>
    have := SeqAt.EqAt.int_int (A := A) (s := s) i t i u
    rw [beq_self_eq_true] at this
    exact this
  | .str i, A, s, _, _, _, x, y, _ => by
    cases x with | str _ t => cases y with | str _ u =>
    have := SeqAt.EqAt.str_str (A := A) (s := s) i t i u
    rw [beq_self_eq_true] at this
    exact this
  | .bytes b, A, s, _, _, _, x, y, _ => by cases x; cases y; exact eqAt_bytes _ _ _
  | .tuple ds, A, s, _, _, N, x, y, hu => by
    rw [ddep] at hu
    cases x with
    | @tuple a vs n _ m x =>
      cases y with
      | @tuple b ws k _ m' y =>
        by_cases hab : a = b
        · subst hab; exact SeqAt.EqAt.same _
        · have hl := x.length.trans y.length.symm
          have := SeqAt.RcAt.tuples (A := A) (s := s) (e := fun _ => true) ⟨_, N _ m, rfl, _, rfl⟩ ⟨_, N _ m', rfl, _, rfl⟩ (by omega) fun j h1 h2 => by
            have := eqAt_datAll ds A.in1 s vs ws N x y (by show A.units + 1 + _ < _; omega) j (by simpa using h1) (by simpa using h2)
            simpa using this
          rw [all_true, show vs.toArray.size = ws.toArray.size from by rw [List.size_toArray, List.size_toArray, hl], beq_self_eq_true] at this
          exact SeqAt.EqAt.of_refs hab this
  | .list ds, A, s, _, _, N, x, y, hu => by
    rw [ddep] at hu
    cases x with
    | @list a vs n _ m x =>
      cases y with
      | @list b ws k _ m' y =>
        by_cases hab : a = b
        · subst hab; exact SeqAt.EqAt.same _
        · have hl := x.length.trans y.length.symm
          have := SeqAt.RcAt.lists (A := A) (s := s) (e := fun _ => true) ⟨_, N _ m, rfl, _, rfl⟩ ⟨_, N _ m', rfl, _, rfl⟩ (by rw [List.size_toArray, List.size_toArray, hl]) (by omega) fun j h1 h2 => by
            have := eqAt_datAll ds A.in1 s vs ws N x y (by show A.units + 1 + _ < _; omega) j (by simpa using h1) (by simpa using h2)
            simpa using this
          rw [all_true] at this
          exact SeqAt.EqAt.of_refs hab this
theorem eqAt_datAll {led : List (Addr × Obj)} : ∀ (ds : List Dat) (A : Around) (s : Shared) (vs ws : List Value), (∀ p ∈ led, s.heap.get? p.1 = some p.2) → DatAll led vs ds → DatAll led ws ds → A.units + ddeps ds < cLine →
    ∀ j (h1 : j < vs.length) (h2 : j < ws.length), SeqAt.EqAt A s vs[j] ws[j] true
  | [], _, _, _, _, _, x, _, _, j, h1, _ => by cases x; exact absurd h1 (Nat.not_lt_zero _)
  | d :: ds, A, s, _, _, N, x, y, hu, j, h1, h2 => by
    rw [ddeps] at hu
    cases x with
    | cons x xs =>
      cases y with
      | cons y ys =>
        cases j with
        | zero => exact eqAt_dat d A s _ _ N x y (by omega)
        | succ j => exact eqAt_datAll ds A s _ _ N xs ys (by omega) j (Nat.lt_of_succ_lt_succ h1) (Nat.lt_of_succ_lt_succ h2)
end
theorem ne_dat {prog : Program} {w : World} {A : Around} {E : Value → Shared → Prop} {s : Shared} {h₀ : Heap} {L : Addr} {led : List (Addr × Obj)} {Q : Value → Shared → Prop} {v v' : Value} (d : Dat) (hd : (∃ ds, d = .tuple ds) ∨ d = .none)
    (N : News h₀ L s.heap led) (x : DatIn led v d) (y : DatIn led v' d) (hu : A.units + ddep d < cLine) (h : Q (.bool false) s) : wpAny (model prog w) A (compareOp .NotEq v v') Q E s := by
  have N' : ∀ p ∈ led, s.heap.get? p.1 = some p.2 := fun p hp => (N p hp).1
  rcases hd with ⟨ds, rfl⟩ | rfl
  · rw [ddep] at hu
    cases x with
    | @tuple a vs n _ m x =>
      cases y with
      | @tuple b ws k _ m' y =>
        have hl := x.length.trans y.length.symm
        have := SeqAt.RcNeAt.tuples (A := A) (s := s) (e := fun _ => true) ⟨_, N' _ m, rfl, _, rfl⟩ ⟨_, N' _ m', rfl, _, rfl⟩ (by omega) fun j h1 h2 => by
          have := eqAt_datAll ds A.in1 s vs ws N' x y (by show A.units + 1 + _ < _; omega) j (by simpa using h1) (by simpa using h2)
          simpa using this
        rw [all_true, show vs.toArray.size = ws.toArray.size from by rw [List.size_toArray, List.size_toArray, hl], beq_self_eq_true] at this
        exact this prog w E Q h
  · cases x; cases y
    exact SeqAt.RcNeAt.none_none prog w E Q h
theorem ddep_W (x : Str × List Int) : ddep (datW x) = 1 := rfl
theorem ddep_look (x : Option (Int × Int × Int × Bool)) : ddep (datLook x) ≤ 1 ∧ ((∃ ds, datLook x = .tuple ds) ∨ datLook x = .none) := by
  cases x with
  | none => exact ⟨Nat.zero_le _, .inr rfl⟩
  | some x => obtain ⟨a, b, c, d⟩ := x; exact ⟨Nat.le_refl _, .inl ⟨_, rfl⟩⟩
theorem ddeps_ints (l : List Int) : ddeps (l.map Dat.int) ≤ 1 := ddeps_le fun d h => by obtain ⟨i, _, rfl⟩ := List.mem_map.mp h; exact Nat.zero_le _
theorem ddeps_hds (l : List Hd) : ddeps (l.map datHd) ≤ 1 := ddeps_le fun d h => by obtain ⟨i, _, rfl⟩ := List.mem_map.mp h; exact Nat.le_refl _
theorem ddep_R (x : Except Str (Pk × List Int)) : ddep (datR x) ≤ 8 ∧ ∃ ds, datR x = .tuple ds := by
  cases x with
  | error e => exact ⟨by simp [datR, ddep, ddeps], _, rfl⟩
  | ok x =>
    obtain ⟨P, o⟩ := x
    refine ⟨?_, _, rfl⟩
    have h1 := ddeps_ints (fieldsOf P)
    have h2 := ddeps_hds P.heads
    simp only [datR, ddep, ddeps]
    omega

theorem part_35 : True := by
  w_top off
  trivial
/-! ## a list of the octets of bytes (the library has no rule for it) -/
section
open AutoSeq1 (wpAny_loadPart')
variable {prog : Program} {w : World} {A : Around} {E : Value → Shared → Prop} {s : Shared}
theorem hint_bytes {b : Array UInt8} {t : Tok} {Q : Bool → Shared → Prop}
    (h : Q false s) : wpAny (model prog w) A (Builtin.List.listLengthHint (.bytes b t)) Q E s := by
  unfold Builtin.List.listLengthHint
  refine wpAny_bind (wpAny_specialOf (typeIs_bytes s b t) FB.slot_bytes_len.lookup ?_)
  generalize hid : ("bytes.__len__" : String) = id0
  wp_delta
  rw [show splitId id0 = some ("bytes", "__len__") from by subst hid; decide +kernel]
  subst hid
  refine wpAny_bind (wpAny_isInstance (T := "bytes") (b := true) (typeIs_bytes s b t) (by rw [isSubtype_type]; kernel_rfl) ?_)
  refine wpAny_ite_split (fun hab => absurd hab (by decide)) (fun _ => ?_)
  refine wpAny_ite_split (fun _ => ?_) (fun hab => absurd (by decide +kernel) hab)
  refine wpAny_bind (wpAny_typeOf (T := "bytes") (typeIs_bytes s b t) ?_)
  exact wpAny_pure h
theorem extend_bytes {R : Result → Shared → Prop} {b : Array UInt8} {t : Tok} (hh : A.handled = none) (hlen : b.size ≤ 2 ^ 24) (S : Addr) (res : Value) (c₀ : Nat) (hS : s.heap.get? S = some { cls := .type "list", data := .seq #[] c₀ })
    (hR : ∀ h' tk acc' c', (∀ b o, b ≠ S → s.heap.get? b = some o → h'.get? b = some o) → h'.get? S = some { cls := .type "list", dict := none, data := .seq acc' c', slots := #[] } →
      ItemsOf (fun i v => ∃ c u, b[i]? = some c ∧ v = .int (c.toNat : Int) u) acc' b.size → R (.ok (.ret res)) { s with heap := h', toks := tk }) :
    wpAny (model prog w) A.in1 (Builtin.List.listExtendWith (.ref S) (.bytes b t) res)
      (fun fin s' => match fin with | .done f => R (.ok f) s' | .again c' => c'.quiet = true ∧ codeAny (model prog w) A c' R s') (fun e s' => R (.error e) s') s := by
  have hSlt : S < s.heap.objs.size := Heap.lt_size hS
  have hSI : S ≠ s.heap.objs.size := Nat.ne_of_lt hSlt
  have hSf : S ∉ [s.heap.objs.size] := fun hm => hSI (List.mem_singleton.mp hm)
  have W := (KBw.walks (prog := prog) (w := w) (A := A.in1) hh s.heap.objs.size b t).toS
  have key : ∀ (h : Heap) (c₁ tk : Nat), KBw.IsBytesIter h s.heap.objs.size b t 0 → (∀ b o, b ≠ S → s.heap.get? b = some o → h.get? b = some o) →
      h.get? S = some { cls := .type "list", data := .seq #[] c₁ } → codeAny (model prog w) A (.builtin "list.extend.loop" ⟨[.ref S, .ref s.heap.objs.size, res], []⟩) R { s with heap := h, toks := tk } := by
    intro h c₁ tk hit hk hS₁
    refine codeAny_extend_loopS W (by rw [sizeLine_eq]; omega) S hSf res b.size 0 _ #[] c₁ rfl (Nat.zero_le _) hit hS₁ (ItemsOf.nil _) fun s' acc' c' hm hS' hacc => ?_
    rw [Moved.eq_with hm]
    refine hR s'.heap s'.toks acc' c' (fun b o hb e => hm.heap b o (fun hmem => ?_) (hk b o hb e)) hS' hacc
    rcases List.mem_cons.mp hmem with e' | hmem
    · exact hb e'
    · exact absurd (Heap.lt_size e) (by rw [List.mem_singleton.mp hmem]; exact Nat.lt_irrefl _)
  unfold Builtin.List.listExtendWith
  refine wpAny_bind (wpAny_typeOf (T := "bytes") (typeIs_bytes s b t) ?_)
  have h1 : Builtin.List.listSameRef (.ref S) (.bytes b t) = false := by simp [Builtin.List.listSameRef]
  have h2 : (Value.type "bytes" == Value.type "list") = false := by decide
  have h3 : (Value.type "bytes" == Value.type "tuple") = false := by decide
  simp only [h1, h2, h3, Bool.or_false, Bool.false_eq_true, if_false]
  refine wpAny_bind (KBw.pyIter_bytes ?_)
  refine wpAny_bind (wpAny_holding (hint_bytes ?_))
  have hit₁ : KBw.IsBytesIter (s.heap.push { cls := .type "bytes_iterator", data := .fields #[.bytes b t, .int 0 0] }) s.heap.objs.size b t 0 := ⟨_, Heap.get?_push_size _ rfl, rfl, rfl⟩
  have hS₁ := Heap.get?_push_of_some { cls := .type "bytes_iterator", data := .fields #[.bytes b t, .int 0 0] } hS
  exact wpAny_ite_split (fun hab => absurd hab (by decide +kernel)) (fun _ => wpAny_pure ⟨plainId_quiet F.plain_extend_loop _, key _ c₀ _ hit₁ (fun b o _ e => Heap.get?_push_of_some _ e) hS₁⟩)
theorem list_init_bytes {R : Result → Shared → Prop} {b : Array UInt8} {t : Tok} (hh : A.handled = none) (hlen : b.size ≤ 2 ^ 24) (S : Addr) (hS : s.heap.get? S = some { cls := .type "list", data := .seq #[] })
    (hR : ∀ h' tk acc' c', (∀ b o, b ≠ S → s.heap.get? b = some o → h'.get? b = some o) → h'.get? S = some { cls := .type "list", dict := none, data := .seq acc' c', slots := #[] } →
      ItemsOf (fun i v => ∃ c u, b[i]? = some c ∧ v = .int (c.toNat : Int) u) acc' b.size → R (.ok (.ret .none)) { s with heap := h', toks := tk }) :
    wpAny (model prog w) A.in1 (Builtin.«list.__init__» ⟨[.ref S, .bytes b t], []⟩)
      (fun fin s' => match fin with | .done f => R (.ok f) s' | .again c' => c'.quiet = true ∧ codeAny (model prog w) A c' R s') (fun e s' => R (.error e) s') s := by
  show wpAny _ _ (do let old ← Builtin.List.listItems (.ref S); Builtin.List.listUpdate (.ref S) (fun _ => #[]); letGo old.toList.reverse; Builtin.List.listExtendWith (.ref S) (.bytes b t) .none) _ _ s
  refine wpAny_bind ?_
  unfold Builtin.List.listItems
  refine wpAny_bind (wpAny_seqItems hS rfl (wpAny_pure ?_))
  show wpAny _ _ (updateSeq S (fun _ => #[]) >>= fun _ => letGo (#[] : Array Value).toList.reverse >>= fun _ => Builtin.List.listExtendWith (.ref S) (.bytes b t) .none) _ _ s
  refine wpAny_bind (wpAny_updateSeq hS rfl ?_)
  have hS₂ := Heap.get?_update_self (Obj.mapSeq (fun _ => (#[] : Array Value))) hS rfl
  have oth : ∀ b o, b ≠ S → s.heap.get? b = some o → (s.heap.update S (Obj.mapSeq (fun _ => (#[] : Array Value)))).get? b = some o :=
    fun b o hb e => (Heap.get?_update_other _ _ (Ne.symm hb)).trans e
  refine wpAny_bind (wpAny_letGo ?_)
  refine extend_bytes hh hlen S .none _ hS₂ fun h' tk acc' c' hk hS' hacc => ?_
  exact hR h' tk acc' c' (fun b o hb e => hk b o hb (oth b o hb e)) hS' hacc
theorem call_list_bytes {Q : Value → Shared → Prop} {b : Array UInt8} {t : Tok} (hh : A.handled = none) (hlen : b.size ≤ 2 ^ 24)
    (hQ : ∀ h' tk acc' c', (∀ b o, s.heap.get? b = some o → h'.get? b = some o) →
      h'.get? s.heap.objs.size = some { cls := .type "list", dict := none, data := .seq acc' c', slots := #[] } → ItemsOf (fun i v => ∃ c u, b[i]? = some c ∧ v = .int (c.toNat : Int) u) acc' b.size → Q (.ref s.heap.objs.size) { s with heap := h', toks := tk }) :
    wpAny (model prog w) A (call (.type "list") [.bytes b t]) Q E s := by
  refine callType_codes (Q₁ := fun obj s₁ => obj = .ref s.heap.objs.size ∧ s₁ = { s with heap := s.heap.push { cls := .type "list", data := .seq #[] } }) F.called_list (F.typeCall_list_1 _) F.entry_list_init
    (code_list_new _ ⟨rfl, rfl⟩) fun obj s₁ h₁ => ?_
  obtain ⟨rfl, rfl⟩ := h₁
  have hS : (s.heap.push { cls := .type "list", data := .seq #[] }).get? s.heap.objs.size = some { cls := .type "list", data := .seq #[] } := Heap.get?_push_size _ rfl
  refine ⟨⟨_, hS, rfl⟩, F.args_list_init_2 _ _, list_init_bytes (A := A.in1) hh hlen _ hS fun h' tk acc' c' hk hS' hacc => ?_⟩
  exact ⟨rfl, hQ h' tk acc' c' (fun b o e => hk b o (Nat.ne_of_lt (Heap.lt_size e)) (Heap.get?_push_of_some _ e)) hS' hacc⟩
theorem ints_items {P : Nat → Value → Prop} : ∀ {vs : List Value} {ns : List Int}, vs.length = ns.length → (∀ (j : Nat) v, vs[j]? = some v → ∃ t, v = .int (ns.getD j 0) t) → IntsAre vs ns
  | [], [], _, _ => .nil
  | [], _ :: _, h, _ => nomatch h
  | _ :: _, [], h, _ => nomatch h
  | v :: vs, n :: ns, h, k => by
    obtain ⟨t, rfl⟩ := k 0 v rfl
    exact .cons _ _ (ints_items (P := P) (Nat.succ.inj h) fun j v hv => k (j + 1) v hv)
theorem list_bytes_K {h₀ : Heap} {L : Addr} {m : Str → Option Value} {news : List (Addr × Obj)} {b : Array UInt8} {ks : List Int} {t : Tok} {Q : Value → Shared → Prop} (hh : A.handled = none) (F : Fr h₀ L s.heap m) (N : News h₀ L s.heap news) (hb : KBw.bInts b = ks) (hlen : ks.length ≤ 70000)
    (h : ∀ D us c h' tk, Fr h₀ L h' m → News h₀ L h' ((D, listOf (List.toArray us) c) :: news) → (∀ p ∈ news, p.1 < D) → IntsAre us ks → Q (.ref D) { s with heap := h', toks := tk }) :
    wpAny (model prog w) A (call (.type "list") [.bytes b t]) Q E s := by
  have hbl : b.size = ks.length := by rw [← hb]; exact (KBw.ints_length b).symm
  refine call_list_bytes hh (by omega) fun h' tk acc c hk hD hI => ?_
  have hD' : h'.get? s.heap.objs.size = some (listOf (List.toArray acc.toList) c) := by
    rw [Array.toArray_toList]
    exact hD
  refine h _ acc.toList c h' tk (F.keeps hk) (news_pushed F N hk hD' rfl) (fun p hp => Heap.lt_size (N p hp).1) (ints_items (P := fun _ _ => True) (by rw [Array.length_toList, hI.1, hbl]) fun j v hj => ?_)
  obtain ⟨c, u, hc, rfl⟩ := hI.2 j v (by rw [← hj, Array.getElem?_toList])
  have := KBw.ints_get hc
  rw [hb] at this
  exact ⟨u, by rw [List.getD, this]; rfl⟩
end

theorem part_36 : True := by
  w_top off
  trivial
/-! ## the law -/
theorem dig_bits {ns : List Int} (h : PyData.layable0 (.list (ns.map .int)) = true) (k : Nat) : Builtin.Int.intBits (dig ns k) ≤ 1048576 := by
  unfold dig
  by_cases hk : k < ns.length
  · rw [getD_lt hk]; exact PyData.bits_item_of_ints h (List.getElem_mem hk)
  · rw [getD_ge (by omega)]; decide
theorem field_bits {d u top : Int} (h : Builtin.Int.intBits d ≤ 1048576) (ht : 0 < top ∧ top ≤ 64) : Builtin.Int.intBits (lawField d u top) ≤ 1048600 := by
  unfold lawField
  split
  · exact Nat.le_trans (intBits_le_of_natAbs (by omega) h) (by decide)
  · refine Nat.le_trans ((intBits_le_iff (m := 6)).mpr ?_) (by decide)
    have := Int.emod_nonneg (d / 16 + u) (b := top) (by omega)
    have := Int.emod_lt_of_pos (d / 16 + u) (b := top) (by omega)
    omega
theorem write_good {P : Pk} (hfit : PkFits P) (hf : HdsFine 0 P.heads) (hn : P.heads.length ≤ 4) (hd : P.data.length ≤ 20) (hok : ∀ h ∈ P.heads, hdOk h) : writeOf P = .ok (octL P) := by
  obtain ⟨f0, f1, f2, f3, ⟨f4, f4'⟩, ⟨f5, f5'⟩, ⟨f6, f6'⟩⟩ := id hfit
  have hg := due_good (P := P) (by omega) hok hfit
  rw [due_wr P hf hn hd] at hg
  unfold wrOf at hg
  split at hg
  · rename_i o ho
    rw [ho, (Prod.mk.inj hg).2]
  · have := congrArg List.length (Prod.mk.inj hg).2
    rw [octL_len] at this
    simp at this
    omega
theorem wr_bytes (P : Pk) (hf : HdsFine 0 P.heads) (hn : P.heads.length ≤ 4) (hd : P.data.length ≤ 20) (hdi : KBa.In P.data) : KBa.In (wrOf P).2 ∧ (wrOf P).2.length ≤ 240 := by
  rw [← due_wr P hf hn hd]
  unfold dueW
  split
  · exact ⟨(fun _ h => nomatch h), Nat.zero_le _⟩
  split
  · exact ⟨(fun _ h => nomatch h), Nat.zero_le _⟩
  split
  · exact ⟨(fun _ h => nomatch h), Nat.zero_le _⟩
  · rename_i h
    have hpl := payL_len P.prot hf
    exact ⟨octL_in (Classical.not_not.mp h) hf hdi, by show (octL P).length ≤ 240; rw [octL_len]; omega⟩
theorem datW_inv {led : List (Addr × Obj)} {v : Value} {x : Str × List Int} (d : DatIn led v (datW x)) : ∃ a n t t', v = .ref a ∧ (a, ({ cls := .type "tuple", data := .seq [.str x.1 t, .bytes (byteArr x.2) t'].toArray n } : Obj)) ∈ led := by
  unfold datW at d
  cases d with
  | tuple hm hd =>
    cases hd with
    | cons d1 d2 =>
      cases d2 with
      | cons d2 d3 =>
        cases d3
        cases d1
        cases d2
        exact ⟨_, _, _, _, rfl, hm⟩
theorem pack {h₀ h : Heap} {L : Addr} {led : List (Addr × Obj)} (N : News h₀ L h led) : ∃ W, W = led ∧ News h₀ L h W := ⟨led, rfl, N⟩
theorem law_units {env : Env} {n : Nat} (h : n ≤ 16) : (callerA.deeper env).units + n < cLine := Nat.lt_of_le_of_lt (Nat.add_le_add_left h _) (show (callerA.deeper env).units + 16 < cLine from Nat.le_of_ble_eq_true rfl)
/-- the packet that a script draws -/
noncomputable abbrev lawPk (ns : List Int) (hs : List Hd) (dt : List Int) : Pk where
  src := lawField (dig ns (Int.toNat 0)) (340282366920938463463374607431768211456 - 2) 340282366920938463463374607431768211456
  tgt := lawField (dig ns (Int.toNat 1)) (85070591730234615865843651857942052864 + 5) 340282366920938463463374607431768211456
  prot := lawField (dig ns (Int.toNat 2)) 17 256
  hop := lawField (dig ns (Int.toNat 3)) 64 256
  dscp := lawField (dig ns (Int.toNat 4)) 46 64
  ecn := lawField (dig ns (Int.toNat 5)) 1 4
  flow := lawField (dig ns (Int.toNat 6)) 703710 1048576
  heads := hs
  data := dt
noncomputable abbrev onePk : Pk := { src := 18446744073709551616, tgt := 3, prot := 6, hop := 64, dscp := 0, ecn := 0, flow := 0, heads := [], data := [7] }
theorem one_fits : PkFits onePk := by
  have a : (0 : Int) ≤ 18446744073709551616 ∧ (18446744073709551616 : Int) < 2 ^ 128 := by decide +kernel
  have b : (0 : Int) ≤ 3 ∧ (3 : Int) < 2 ^ 128 := by decide +kernel
  have f : (0 : Int) ≤ 0 ∧ (0 : Int) < 2 ^ 20 := by decide +kernel
  exact ⟨a, b, ⟨by decide, by decide⟩, ⟨by decide, by decide⟩, ⟨by decide, by decide⟩, ⟨by decide, by decide⟩, f⟩
theorem one_in : KBa.In [7] := fun k h => by rw [List.mem_singleton.mp h]; decide
theorem one_ok : PkOk onePk := ⟨(fun _ h => nomatch h), by decide, one_in, by decide, by decide, by decide⟩
theorem one_wr : writeOf onePk = .ok (octL onePk) := write_good one_fits HdsFine.nil (by decide) (by decide) fun _ h => nomatch h
theorem said_47 : True := by
  k_with "my:binaryOp Pow int int" => (k_here; first | refine pow_lit 126 85070591730234615865843651857942052864 (by decide) (by decide) (by decide +kernel) ?_ | refine pow_lit 64 18446744073709551616 (by decide) (by decide) (by decide +kernel) ?_)
  k_with "my:call ref" => (k_here; (fail_if_success plain_pass); (first | (with_reducible show wpAny _ _ (call (Value.ref 253) _) _ _ _) | (with_reducible show wpAny _ _ (call (Value.ref 140) _) _ _ _)); refine Stop.intro ?_)
  trivial
theorem said_48 : True := by
  k_with "my:#ktr_room" => exact Nat.le_of_ble_eq_true rfl
  k_with "my:#ktr_units" => exact Nat.le_of_ble_eq_true rfl
  trivial
/-! two facts of the text, by the kernel as they lie (else the library lays a twin of the whole text: 2 MB) -/
theorem names_ok : namesOk vw (looseW vw []) (namesW vw []) = true := by kernel_rfl
theorem imports_none : importsNone vw = true := by kernel_rfl
local macro_rules | `(tactic| k_qdec) => `(tactic| first | exact names_ok | exact imports_none)
theorem FINAL : PySem.Challenge.rw_pf0340_01.Holds := by
  refine of_heldQ ?_
  simp (disch := (refine anchorQ ?_; k_dflt (
  refine Mine.hd ?_
  k_go0
  w_top off
  rename IntsAre _ _ => hI
  rename PyData.layable0 (.list _) = true => hlay
  rename ¬ ((63 : Nat) : Int) < _ => hlen0
  rename List Int => ns
  have hlen : ns.length < 64 := by omega
  have hvl0 := hI.length
  (try dsimp only)
  show wpAny _ _ _ _ _ _
  k_extra "my:my fold"
  show (let Aq : Around := _; wpAny _ Aq _ _ _ _)
  intro Aq
  k_steps
  refine Stop.out ?_
  rename IntsAre _ (_ ++ [lawField _ 1 _, _]) => hFs
  rename IntsAre _ (some_ _ _ _) => hDs
  have hmany : 0 ≤ (dig ns (Int.toNat 8) + 3).fmod 10 ∧ (dig ns (Int.toNat 8) + 3).fmod 10 < 10 := by rw [fm (by decide)]; omega
  generalize hdt : some_ (dig ns (Int.toNat 7)) ((dig ns (Int.toNat 8) + 3).fmod 10).toNat 100 = dt at hDs
  have hdl : dt.length ≤ 20 := by rw [← hdt, some_length]; omega
  have hdi : KBa.In dt := by rw [← hdt]; exact some_in _ _ _
  rename Fr _ _ _ _ => F7
  rename News _ _ _ _ => N7
  k_dflt (refine' Called.use ?k1 F7 ?k3 N7 ?k5 ?k6 (law_heads_c _ _ _ _ ns hI (by omega)) ?kb ?kd ?ku ?_)
  (case kb => assumption)
  k_extra "my:my facts2"
  intro v1 tl1 h1 tk1 F1 N1 hpt6
  (try k_extra "my:my fold")
  obtain ⟨lh, vh, ch, hs, rfl, mh, hda, hn, hf⟩ := hpt6
  (try dsimp only)
  obtain ⟨W1, e1, N1⟩ := pack N1
  have a1 : (lh, listOf vh.toArray ch) ∈ W1 := by rw [e1]; exact List.mem_append_left _ mh
  have a2 : (l9, listOf vs9.toArray n9) ∈ W1 := by rw [e1]; exact List.mem_append_right _ (.head _)
  have a3 : (D', listOf us'.toArray 0) ∈ W1 := by rw [e1]; exact List.mem_append_right _ (.tail _ (.head _))
  rw [← e1] at hda
  clear e1 mh
  have N1 := put (put (put N1 a1) (.tail _ a2)) (.tail _ (.tail _ a3))
  k_steps
  refine Stop.out ?_
  rename Fr _ _ _ _ => F6
  rename News _ _ _ _ => N6
  k_dflt (refine' Called.use ?k1 F6 ?k3 N6 ?k5 ?k6 (law_spoilt_c _ _ _ _ ns hI (by omega) lh vh ch hs (by k_mem) (hda.mono fun p hp => .tail _ (.tail _ (.tail _ hp))) hn hf) ?kb ?kd ?ku ?_)
  (case kb => assumption)
  k_extra "my:my facts2"
  intro v2 tl2 h2 tk2 F2 N2 hpt6
  (try k_extra "my:my fold")
  obtain ⟨ls, vs, cs, js, rfl, ms, hdj, hnj, hfj⟩ := hpt6
  (try dsimp only)
  obtain ⟨W2, e2, N2⟩ := pack N2
  have b1 : (ls, listOf vs.toArray cs) ∈ W2 := by rw [e2]; exact List.mem_append_left _ ms
  have b2 : ∀ p ∈ W1, p ∈ W2 := fun p hp => by rw [e2]; exact List.mem_append_right _ (by k_extra "my:my tail")
  rw [← e2] at hdj
  clear e2 ms
  have N2 := put (put (put (put N2 (b2 _ a1)) (.tail _ (b2 _ a2))) (.tail _ (.tail _ (b2 _ a3)))) (.tail _ (.tail _ (.tail _ b1)))
  k_steps
  refine Stop.out ?_
  rename Fr _ _ _ _ => F5
  rename News _ _ _ _ => N5
  k_dflt (refine' Called.use ?k1 F5 ?k3 N5 ?k5 ?k6 (law_due_written_c _ _ (lawPk ns js dt) D' ls l9 us' vs vs9 0 cs n9 (by k_mem) hFs (by k_mem) (hdj.mono fun p hp => .tail _ (.tail _ (.tail _ (.tail _ hp)))) (by k_mem) hDs hnj hfj hdl hdi) trivial ?kd ?ku ?_)
  k_extra "my:my facts2"
  rintro v3 tl3 h3 tk3 F3 N3 hv3
  (try dsimp only)
  unfold IsDat at hv3
  rw [due_wr _ hfj hnj hdl] at hv3
  obtain ⟨ad, nd, t3, u3, rfl, m3⟩ := datW_inv hv3
  obtain ⟨W3, e3, N3⟩ := pack N3
  have c1 : ∀ p ∈ W2, p ∈ W3 := fun p hp => by rw [e3]; exact List.mem_append_right _ (by k_extra "my:my tail")
  rw [← e3] at m3 hv3
  clear e3
  have N3 := put (put (put (put (put N3 (c1 _ b1)) (.tail _ (c1 _ (b2 _ a1)))) (.tail _ (.tail _ (c1 _ (b2 _ a2))))) (.tail _ (.tail _ (.tail _ (c1 _ (b2 _ a3)))))) (.tail _ (.tail _ (.tail _ (.tail _ m3))))
  k_steps
  refine Stop.out ?_
  rename Fr _ _ _ _ => F4
  rename News _ _ _ _ => N4
  k_dflt (refine' CalledT.use ?k1 F4 ?k3 N4 ?k5 ?k6 ?k7 ?k8 (law_written_c _ _ (lawPk ns js dt) D' ls l9 us' vs vs9 0 cs n9 (by k_mem) hFs (by k_mem) (hdj.mono fun p hp => by have hp := c1 p hp; k_extra "my:my tail") (by k_mem) hDs hnj hfj hdl hdi (field_bits (dig_bits hlay _) ⟨by decide, by decide⟩) (field_bits (dig_bits hlay _) ⟨by decide, by decide⟩)) ?kd ?ku ?_)
  k_extra "my:my facts2"
  (case k7 => assumption)
  (case k8 => assumption)
  rintro v4 tl4 h4 tk4 F4 N4 hv4
  (try dsimp only)
  k_steps
  rename Fr _ _ _ _ => F4
  rename News _ _ _ _ => N4
  unfold IsDat at hv4
  refine ne_dat (datW (wrOf (lawPk ns js dt))) (.inl ⟨_, rfl⟩) N4 hv4 (hv3.mono fun p hp => List.mem_append_right _ (by k_extra "my:my tail")) (law_units (by rw [ddep_W]; decide)) ?_
  k_steps
  refine Stop.out ?_
  rename Fr _ _ _ _ => F5
  rename News _ _ _ _ => N5
  k_dflt (refine' CalledE.use ?k1 F5 ?k3 N5 ?k5 ?k6 (write_ipv6_c _ _ _ onePk ?kp one_ok) trivial ?kd ?ku ?_ ?_)
  k_extra "my:my facts2"
  (case kp => exact ⟨_, _, _, [], 0, _, _, _, _, _, _, _, _, _, _, _, _, _, _, _, _, _, _, _, _, _, _, _, _, _, _, rfl, by k_mem, by k_mem, by k_mem, .nil⟩)
  rotate_left
  · intro x9 C9 why9 h8 tk8 g9 hx9
    rw [one_wr] at hx9; cases hx9
  intro v5 tl5 h5 tk5 F5 N5 hpt6
  (try k_extra "my:my fold")
  obtain ⟨o5, t5, ho5, rfl, rfl⟩ := hpt6
  obtain rfl : o5 = _ := Except.ok.inj (ho5.symm.trans one_wr)
  (try dsimp only)
  (try dsimp +zetaDelta only at N5)
  simp only [List.nil_append] at N5
  k_steps
  refine Stop.out ?_
  rename Fr _ _ _ _ => F6
  rename News _ _ _ _ => N6
  k_dflt (refine' Called.use ?k1 F6 ?k3 N6 ?k5 ?k6 (law_octets_c _ _ onePk _ _ _ _ [] _ _ _ _ ?o1 ?o2 ?o3 .nil ?o5 ?o6 (by decide) HdsFine.nil (by decide) one_in one_fits) trivial ?kd ?ku ?_)
  (case o1 => k_mem)
  (case o2 => k_extra "my:my ints7")
  (case o3 => k_mem)
  (case o5 => k_mem)
  (case o6 => exact .cons _ _ .nil)
  k_extra "my:my facts2"
  intro v6 tl6 h6 tk6 F6 N6 hpt6
  (try k_extra "my:my fold")
  obtain ⟨l6, vs6, n6, rfl, rfl, i6, lt6⟩ := hpt6
  (try dsimp only)
  (try dsimp +zetaDelta only at N6)
  simp only [List.cons_append, List.nil_append] at N6
  have N6 : News _ _ _ ((l6, listOf vs6.toArray n6) :: (ad, { cls := .type "tuple", data := .seq [Value.str _ t3, .bytes (byteArr _) u3].toArray nd }) :: (lh, listOf vh.toArray ch) :: W3) := cb_drop N6 (List.forall_mem_cons.mpr ⟨.head _, List.forall_mem_cons.mpr ⟨by k_extra "my:my tail", List.forall_mem_cons.mpr ⟨by have h := c1 _ (b2 _ a1); k_extra "my:my tail", fun p hp => by k_extra "my:my tail"⟩⟩⟩)
  k_steps
  refine Stop.out ?_
  rename Fr _ _ _ _ => F9
  refine KBa.make_K F9 N6 rfl ⟨_, (N6 _ (.head _)).1, rfl, _, rfl⟩ i6 (octL_in one_fits HdsFine.nil one_in) (by rw [octL_len]; decide) fun h8 t8 k8 F8 N8 hin8 => ?_
  (try dsimp only)
  refine ne_bytes ?_
  rw [show ((byteArr (octL onePk)).toList != (byteArr (octL onePk)).toList) = false from bne_self_eq_false _]
  k_steps
  have hwb := wr_bytes (lawPk ns js dt) hfj hnj hdl hdi
  rename Fr _ _ _ _ => F7
  rename News _ _ _ _ => N7
  refine list_bytes_K rfl F7 N7 (KBa.ints_make hwb.1) (Nat.le_trans hwb.2 (by decide)) fun lo us co h9 tk9 F9 N9 ltD hiD => ?_
  obtain ⟨wo, hiD, hwb⟩ : ∃ wo, IntsAre us wo ∧ KBa.In wo ∧ wo.length ≤ 240 := ⟨_, hiD, hwb⟩
  have hda := hda.mono fun p hp => c1 _ (b2 _ hp)
  k_steps
  refine Stop.out ?_
  rename Fr _ _ _ _ => F5
  rename News _ _ _ _ => N5
  k_dflt (refine' Called.use ?k1 F5 ?k3 N5 ?k5 ?k6 (law_any_c _ _ _ _ ns hI hlen lh vh ch hs (by k_mem) (hda.mono fun p hp => by k_extra "my:my tail") hn hf) ?kb ?kd ?ku ?_)
  (case kb => assumption)
  k_extra "my:my facts2"
  intro v7 tl7 h7 tk7 F7 N7 hpt6
  (try k_extra "my:my fold")
  obtain ⟨la, va, ca, ka, rfl, ma, hia, hina, hlena⟩ := hpt6
  (try dsimp only)
  have N7 := put (put N7 (List.mem_append_left _ ma)) (.tail _ (List.mem_append_right _ (.head _)))
  k_steps
  rename Fr _ _ _ _ => F5
  rename News _ _ _ _ => N5
  have N5 : News _ _ _ ((_, listOf [Value.ref lo, .ref la].toArray 0) :: (lo, listOf us.toArray co) :: (la, listOf va.toArray ca) :: []) := cb_drop N5 (List.forall_mem_cons.mpr ⟨.head _, List.forall_mem_cons.mpr ⟨.tail _ (.head _), List.forall_mem_cons.mpr ⟨.tail _ (.tail _ (.head _)), fun _ h => nomatch h⟩⟩⟩)
  clear hDs hFs hda hf hdi hdl hdt hmany hdj hfj hnj hv3 hv4 m3 c1 b1 b2 a1 a2 a3 i6 ho5 hin8
  refine for_list rfl F5 N5 (.head _) (fun i m nx => nx = _ ∧ True) ⟨rfl, trivial⟩ (by rintro i m₁ news₁ ⟨rfl, _⟩; exact .head _) ?_ ?_ (by with_unfolding_all passes_own)
  · intro i v m₁ news₁ h tk I oI hv hltI hpt10 ha F N
    (try k_extra "my:my fold")
    obtain ⟨rfl, _⟩ := hpt10
    obtain ⟨lx, vx, cx, kx, rfl, hmx, hix, hinx, hlx⟩ : ∃ lx vx cx kx, v = .ref lx ∧ (lx, listOf vx.toArray cx) ∈ [(lo, listOf us.toArray co), (la, listOf va.toArray ca)] ∧ IntsAre vx kx ∧ KBa.In kx ∧ kx.length ≤ 240 := by
      match i, hv with
      | 0, hv => cases hv; exact ⟨lo, us, co, wo, rfl, .head _, hiD, hwb.1, hwb.2⟩
      | 1, hv => cases hv; exact ⟨la, va, ca, ka, rfl, .tail _ (.head _), hia, hina, hlena⟩
      | i + 2, hv => cases hv
    have N := put N (.tail _ (.tail _ hmx))
    clear hiD hwb hia hina hlena
    k_steps
    refine Stop.out ?_
    rename Fr _ _ _ _ => F7
    rename News _ _ _ _ => N7
    k_dflt (refine' CalledT.use ?k1 F7 ?k3 N7 ?k5 ?k6 ?k7 ?k8 (law_read_c _ _ lx vx cx kx (by k_mem) hix hinx hlx) ?kd ?ku ?_)
    k_extra "my:my facts2"
    (case k7 => assumption)
    (case k8 => assumption)
    rintro v1 tl1 h1 tk1 F1 N1 hv1
    (try dsimp only)
    have N1 := put N1 (List.mem_append_right _ (.head _))
    k_steps
    refine Stop.out ?_
    rename Fr _ _ _ _ => F7
    rename News _ _ _ _ => N7
    k_dflt (refine' Called.use ?k1 F7 ?k3 N7 ?k5 ?k6 (law_due_read_c _ _ lx vx cx kx (by k_mem) hix hinx hlx) trivial ?kd ?ku ?_)
    k_extra "my:my facts2"
    rintro v2 tl2 h2 tk2 F2 N2 hv2
    (try dsimp only)
    unfold IsDat at hv1 hv2
    refine ne_dat (datR (readD kx)) (.inl (ddep_R _).2) N2 (hv1.mono fun p hp => List.mem_append_right _ (.tail _ hp)) hv2 (law_units (Nat.le_trans (ddep_R _).1 (by decide))) ?_
    have N2 : News _ _ _ ((lx, listOf vx.toArray cx) :: (I, oI) :: (_, listOf [Value.ref lo, .ref la].toArray 0) :: (lo, listOf us.toArray co) :: (la, listOf va.toArray ca) :: []) := cb_drop N2 fun p hp => List.mem_append_right _ (.tail _ (List.mem_append_right _ hp))
    clear N1 hv1 hv2
    k_steps
    refine Stop.out ?_
    rename Fr _ _ _ _ => F7
    rename News _ _ _ _ => N7
    refine KBa.make_K F7 N7 rfl ⟨_, (N7 _ (.head _)).1, rfl, _, rfl⟩ hix hinx (by omega) fun h8 t8 k8 F8 N8 hin8 => ?_
    have hbk := KBa.ints_make hinx
    k_steps
    refine Stop.out ?_
    rename Fr _ _ _ _ => F7
    rename News _ _ _ _ => N7
    rename IsDat (datLook _) _ _ _ => hv5
    k_dflt (refine' Called.use ?k1 F7 ?k3 N7 ?k5 ?k6 (law_due_look_c _ _ lx vx cx kx (List.mem_append_right _ (.head _)) hix hinx hlx) trivial ?kd ?ku ?_)
    k_extra "my:my facts2"
    rintro v6 tl6 h6 tk6 F6 N6 hv6
    (try dsimp only)
    k_steps
    unfold IsDat at hv5 hv6
    refine ne_dat (datLook (look kx)) (ddep_look _).2 N6 (hv5.mono fun p hp => List.mem_append_right _ hp) hv6 (law_units (Nat.le_trans (ddep_look _).1 (by decide))) ?_
    k_steps
    rename Fr _ _ _ _ => F9
    refine TurnEnd.intro F9 N6 (List.mem_append_right _ (List.mem_append_right _ (.tail _ (.head _)))) (fun p hp => List.mem_append_right _ (List.mem_append_right _ (.tail _ (.tail _ hp)))) ha ⟨rfl, trivial⟩ rfl
  · intro m₁ news₁ h tk hpt4 F N
    (try k_extra "my:my fold")
    obtain ⟨rfl, _⟩ := hpt4
    k_steps))) only [↓heldQ_eq]

end Mine
theorem PySem.Challenge.cw_pf0340_01_holds : PySem.Challenge.rw_pf0340_01.Holds :=
  Mine.FINAL
