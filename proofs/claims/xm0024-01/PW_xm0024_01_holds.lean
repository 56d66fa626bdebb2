import PyProof.Rows.All
import Wide.All
import OpenK.AllK
import Wide.FinOn
import PySem.Challenge.RW_xm0024_01
open PySem PySem.W PyProof.Rows
set_option Elab.async false
set_option autoImplicit false
set_option maxRecDepth 100000
namespace Mine
/-- the law's file without the three lines that name the modules -/
def vw : Program := view PySem.Challenge.pw_xm0024_01 [1, 3, 4, 5, 6, 7, 8, 9, 10, 11, 12, 13, 14, 16, 17, 18, 19, 20, 21, 22]
/-- the opening is the library's; the top from there on is one look -/
theorem left_boot {p : Program} {N : Nat} {β : Type} {f : Shared → β} {r : World → β} (e : opening p = plainProg p.main.scope.names) (hN : Nat.ble 600 N = true) (hf : ∀ s, fenceModules? p s = some s)
    (h : ∀ (w : World) (os : OsState), (topFrom treeTable p w N ⟨boot_heap w.params, Array.mk [], boot_drawn, boot_toks, os⟩).map f = some (r w)) : ∀ w : World, (openEnds treeTable p w N).map f = some (r w) := fun w => by
  obtain ⟨⟨hp, gs, d, k, os⟩, a, a'⟩ := Option.map_eq_some_iff.mp (boot_open e hN hf w)
  obtain ⟨rfl, rfl, rfl, rfl⟩ : hp = boot_heap w.params ∧ gs = Array.mk [] ∧ d = boot_drawn ∧ k = boot_toks := by simpa using a'
  unfold openEnds
  rw [a]
  exact h w os
local macro_rules | `(tactic| o_head $H) => `(tactic| (
  refine holds_open (q := vw) (loose := [Str.ofString "BasicError"]) (Xt := fun s => xlAt vw [] s && recOk (RowW.records PySem.Challenge.rw_xm0024_01.row.toRowW) s) (XP := XL vw []) (Yf := Hook.obs $H) (Ya := Hook.val $H) (YP := Hook.says $H) (N := 1776) ?hl (Hook.of $H) (Hook.keeps $H) (fun s e => xl_of s (Bool.and_eq_true_iff.mp e).1) XL.keeps (by rfl) (by rfl) (by rfl) (fun s e => recFacts_of (Bool.and_eq_true_iff.mp e).2) (by rfl) (by first | assumption | decide +kernel) (by decide +kernel) ⟨rfl, rfl, rfl, rfl, rfl, by decide +kernel⟩ ?hw ?hc
  (case hl => (refine left_boot ?a1 ?a2 ?a3 ?a4; (case a1 => kernel_rfl); (case a2 => decide); (case a3 => (intro s; kernel_rfl)); (case a4 => (intro w os; delta topFrom vw; rw [PySem.W.Fast.te14364793385576792824, PySem.W.Fast.te14082659384304107361, PySem.W.Fast.te4187177175401517315, PySem.W.Fast.te5923862056798008813]; kernel_rfl))))))
set_option maxHeartbeats 8000000 in
open_top hd for PySem.Challenge.rw_xm0024_01

abbrev Led := List (Addr × Obj)
/-- a call of the def at f from any frame: it comes back with a value and a ledger of which Post holds -/
def CallOK (w : World) (f : Addr) (k : Nat) (vs : List Value) (news : Led) (Post : Value → Led → Prop) : Prop :=
  ∀ (p : Program) (loose : List Str) (mean : ExcName → Option Value) (mg mb : Str → Option Value)
    (dp un : Nat) (gd : Option (List Code)) (cn : Str) (cs : Scope) (a : Addr) (ccd : Value) (cl : List (Str × Addr)) (outer : List Env) (A₀ : Around) (base h₀ : Heap) (L : Addr) (m : Str → Option Value) (s : Shared)
    (Q E : Value → Shared → Prop),
    Below A₀ base outer h₀ → Fr h₀ L s.heap m → (hd.heap_39 w.params).In h₀ → News h₀ L s.heap news → Top p loose mean mg mb h₀ → cs.kind = .function → dp + k < recursionLimit → un + 8 * k < cLine →
    (∀ (r : Value) (news' : Led) (h' : Heap) (tk' : Nat), Post r news' → Fr h₀ L h' m → News h₀ L h' news' → Q r { s with heap := h', toks := tk' }) →
    wpAny (model PySem.Challenge.rw_xm0024_01.row.prog w) (ktrTop dp un gd cn cs L a ccd cl outer) (call (.ref f) vs) Q E s
theorem use {w : World} {f : Addr} {k : Nat} {vs : List Value} {news : Led} {Post : Value → Led → Prop} (C : CallOK w f k vs news Post)
    {p : Program} {loose : List Str} {mean : ExcName → Option Value} {mg mb : Str → Option Value}
    {dp un : Nat} {gd : Option (List Code)} {cn : Str} {cs : Scope} {a : Addr} {ccd : Value} {cl : List (Str × Addr)} {outer : List Env} {A₀ : Around} {base h₀ : Heap} {L : Addr} {m : Str → Option Value} {s : Shared}
    {Q E : Value → Shared → Prop}
    (B : Below A₀ base outer h₀) (F : Fr h₀ L s.heap m) (X : (hd.heap_39 w.params).In h₀) (N : News h₀ L s.heap news) (T : Top p loose mean mg mb h₀) (hk : cs.kind = .function) (hd : dp + k < recursionLimit) (hu : un + 8 * k < cLine)
    (ret : ∀ (r : Value) (news' : Led) (h' : Heap) (tk' : Nat), Post r news' → Fr h₀ L h' m → News h₀ L h' news' → Q r { s with heap := h', toks := tk' }) :
    wpAny (model PySem.Challenge.rw_xm0024_01.row.prog w) (ktrTop dp un gd cn cs L a ccd cl outer) (call (.ref f) vs) Q E s :=
  C p loose mean mg mb dp un gd cn cs a ccd cl outer A₀ base h₀ L m s Q E B F X N T hk hd hu ret

abbrev pairO (x : Int × Int) (t u : Tok) (c : Nat) : Obj := { cls := .type "tuple", data := .seq #[.int x.1 t, .int x.2 u] c }
abbrev IntPost (x : Int) (news : Led) : Value → Led → Prop := fun r news' => ∃ t', r = .int x t' ∧ news' = news
abbrev PairPost (x : Int × Int) (news : Led) : Value → Led → Prop := fun r news' => ∃ D t u c, r = .ref D ∧ news' = (D, ({ cls := .type "tuple", data := .seq #[.int x.1 t, .int x.2 u] c } : Obj)) :: news ∧ AllLt D news
theorem allLt_drop {D : Addr} {n n' : Led} (h : AllLt D n) (hs : ∀ p ∈ n', p ∈ n) : AllLt D n' := allLt_of fun p hp => ktn_ltOf h p (hs p hp)
theorem pair_end {x : Int × Int} {a b : Int} {news news' : Led} {D : Addr} {t u : Tok} {c : Nat} {h₀ h' : Heap} {L : Addr} {m : Str → Option Value} {s : Shared} {tk' : Nat} {Q : Value → Shared → Prop}
    (hret : ∀ (r : Value) (news' : Led) (h' : Heap) (tk' : Nat), PairPost x news r news' → Fr h₀ L h' m → News h₀ L h' news' → Q r { s with heap := h', toks := tk' }) (F : Fr h₀ L h' m) (N : News h₀ L h' news')
    (hm : (D, ({ cls := .type "tuple", data := .seq #[.int a t, .int b u] c } : Obj)) ∈ news') (hs : ∀ p ∈ news, p ∈ news') (hl : AllLt D news) (ea : a = x.1) (eb : b = x.2) : Q (.ref D) { s with heap := h', toks := tk' } := by
  subst ea; subst eb
  refine hret _ _ _ _ ⟨D, t, u, c, rfl, rfl, hl⟩ F (cb_drop N fun p hp => ?_)
  rcases List.mem_cons.mp hp with rfl | hp
  · exact hm
  · exact hs p hp

theorem int_end {x a : Int} {news news' : Led} {t : Tok} {h₀ h' : Heap} {L : Addr} {m : Str → Option Value} {s : Shared} {tk' : Nat} {Q : Value → Shared → Prop}
    (hret : ∀ (r : Value) (news' : Led) (h' : Heap) (tk' : Nat), IntPost x news r news' → Fr h₀ L h' m → News h₀ L h' news' → Q r { s with heap := h', toks := tk' }) (F : Fr h₀ L h' m) (N : News h₀ L h' news')
    (hs : ∀ p ∈ news, p ∈ news') (ea : a = x) : Q (.int a t) { s with heap := h', toks := tk' } := by
  subst ea
  exact hret _ _ _ _ ⟨t, rfl, rfl⟩ F (cb_drop N hs)
theorem useInt {w : World} {f : Addr} {k : Nat} {vs : List Value} {news : Led} {x : Int}
    {p : Program} {loose : List Str} {mean : ExcName → Option Value} {mg mb : Str → Option Value}
    {dp un : Nat} {gd : Option (List Code)} {cn : Str} {cs : Scope} {a : Addr} {ccd : Value} {cl : List (Str × Addr)} {outer : List Env} {A₀ : Around} {base h₀ : Heap} {L : Addr} {m : Str → Option Value} {s : Shared}
    {Q E : Value → Shared → Prop}
    (F : Fr h₀ L s.heap m) (N : News h₀ L s.heap news) (C : CallOK w f k vs news (IntPost x news)) (B : Below A₀ base outer h₀) (X : (hd.heap_39 w.params).In h₀) (T : Top p loose mean mg mb h₀) (hk : cs.kind = .function) (hd : dp + k < recursionLimit) (hu : un + 8 * k < cLine)
    (ret : ∀ (t : Tok) (h' : Heap) (tk' : Nat), Fr h₀ L h' m → News h₀ L h' news → Q (.int x t) { s with heap := h', toks := tk' }) :
    wpAny (model PySem.Challenge.rw_xm0024_01.row.prog w) (ktrTop dp un gd cn cs L a ccd cl outer) (call (.ref f) vs) Q E s :=
  use C B F X N T hk hd hu (by
    rintro _ _ h' tk' ⟨t, rfl, rfl⟩ F' N'
    exact ret t h' tk' F' N')
theorem usePair {w : World} {f : Addr} {k : Nat} {vs : List Value} {news : Led} {x : Int × Int}
    {p : Program} {loose : List Str} {mean : ExcName → Option Value} {mg mb : Str → Option Value}
    {dp un : Nat} {gd : Option (List Code)} {cn : Str} {cs : Scope} {a : Addr} {ccd : Value} {cl : List (Str × Addr)} {outer : List Env} {A₀ : Around} {base h₀ : Heap} {L : Addr} {m : Str → Option Value} {s : Shared}
    {Q E : Value → Shared → Prop}
    (F : Fr h₀ L s.heap m) (N : News h₀ L s.heap news) (C : CallOK w f k vs news (PairPost x news)) (B : Below A₀ base outer h₀) (X : (hd.heap_39 w.params).In h₀) (T : Top p loose mean mg mb h₀) (hk : cs.kind = .function) (hd : dp + k < recursionLimit) (hu : un + 8 * k < cLine)
    (ret : ∀ (D : Addr) (t u : Tok) (c : Nat) (h' : Heap) (tk' : Nat), Fr h₀ L h' m → News h₀ L h' ((D, ({ cls := .type "tuple", data := .seq #[.int x.1 t, .int x.2 u] c } : Obj)) :: news) → AllLt D news → Q (.ref D) { s with heap := h', toks := tk' }) :
    wpAny (model PySem.Challenge.rw_xm0024_01.row.prog w) (ktrTop dp un gd cn cs L a ccd cl outer) (call (.ref f) vs) Q E s :=
  use C B F X N T hk hd hu (by
    rintro _ _ h' tk' ⟨D, t, u, c, rfl, rfl, l⟩ F' N'
    exact ret D t u c h' tk' F' N' l)
/-- what stands behind a tree is a letter: the walk carries it no more -/
theorem post_gen {M : Model} {A : Around} {α : Type} {x : Sem α} {P : α → Shared → Prop} {E : Value → Shared → Prop} {s : Shared} (h : ∀ Qt : α → Shared → Prop, (∀ y s₂, P y s₂ → Qt y s₂) → wpAny M A x Qt E s) : wpAny M A x P E s := h P fun _ _ h => h
theorem turn_gen {M : Model} {A : Around} {α : Type} {x : Sem α} {y : Sem Flow} {P : Flow → Shared → Prop} {E : Value → Shared → Prop} {s : Shared} (h : ∀ Qt : Flow → Shared → Prop, (∀ f s₂, P f s₂ → Qt f s₂) → wpAny M A x (fun _ s₂ => wpAny M A y Qt E s₂) E s) : wpAny M A x (fun _ s₂ => wpAny M A y P E s₂) E s := h P fun _ _ h => h

-- the premises of «use», then what comes back
local macro_rules | `(tactic| walk_at "use") => `(tactic| (
  (case k1 => first | k_asm | ktn_no "use: the frames below")
  (case k3 => first | k_asm | ktn_no "use: the written part")
  (case k5 => first | k_asm | ktn_no "use: the top's facts")
  (case kK => first | exact rfl | assumption | ktn_no "use: the caller is no def")
  (case kd => first | ktr_room | ktn_no "use: the room")
  (case ku => first | ktr_units | ktn_no "use: the units")))
local macro_rules | `(tactic| walk_at "used") => `(tactic| ((try dsimp only); (try k_sweep); (try k_fold)))
local macro_rules | `(tactic| walk_at "useInt") => `(tactic| (walk_at "use"; intro t9 h9 tk9 F9 N9; walk_at "used"))
local macro_rules | `(tactic| walk_at "usePair") => `(tactic| (walk_at "use"; intro D9 t9 u9 c9 h9 tk9 F9 N9 l9; (try simp only [AllLt, and_true] at l9); walk_at "used"))
local macro_rules | `(tactic| walk_at "sub") => `(tactic| (intro p9 h9; first | exact h9 | (simp only [List.mem_cons, List.mem_append, h9, true_or, or_true]; done)))
local macro_rules | `(tactic| walk_at "lt") => `(tactic| first | assumption | exact And.right (by assumption) | exact And.right (And.right (by assumption)) | exact And.right (And.right (And.right (by assumption))) | exact And.right (And.right (And.right (And.right (by assumption)))) | ktn_lt)
local macro_rules | `(tactic| walk_at "pairEnd") => `(tactic| (refine pair_end (by assumption) (by assumption) (by assumption) (by k_mem) (by walk_at "sub") (by walk_at "lt") ?pe1 ?pe2))
local macro_rules | `(tactic| walk_at "intEnd") => `(tactic| (refine int_end (by assumption) (by assumption) (by assumption) (by walk_at "sub") ?ie1))
local macro_rules | `(tactic| walk_at "call type:zip") => `(tactic| (k_extra "zip comp"))
local macro_rules | `(tactic| walk_at "mem") => `(tactic| first | (with_reducible exact List.mem_cons_self) | (with_reducible refine List.mem_cons_of_mem _ ?_; walk_at "mem") | (with_reducible refine List.mem_append_left _ ?_; walk_at "mem") | (with_reducible refine List.mem_append_right _ ?_; walk_at "mem") | with_reducible assumption)
local macro_rules | `(tactic| k_mem) => `(tactic| walk_at "mem")
local macro_rules | `(tactic| walk_at "exec For Name Call cons nil") => `(tactic| (k_extra "for"))
local macro_rules | `(tactic| walk_at "exec For Tuple Call cons nil") => `(tactic| (k_extra "for"))
local macro_rules | `(tactic| walk_at "exec For Name Name cons nil") => `(tactic| (k_extra "for"))
local macro_rules | `(tactic| walk_at "go for") => `(tactic| (k_dflt (refine For_turns (by k_asm) ?_ (by intro _; rfl) (by first | assumption | passes_own))))
local macro_rules | `(tactic| walk_at "TPost") => `(tactic| (dsimp only [TPost]))
local macro_rules | `(tactic| walk_at "pyIter ref") => `(tactic| ((with_reducible show wpAny _ _ (pyIter (Value.ref _)) (fun it s₂ => TurnsAt _ _ _ _ _ _ _ _ _ it s₂) _ _); k_extra "turns"))
local macro_rules | `(tactic| walk_at "CompSrc") => `(tactic| (k_extra "comp src"))
local macro_rules | `(tactic| walk_at "go comp") => `(tactic| (k_dflt (refine LCg.ListComp_U (F₀ := by k_asm) (by with_unfolding_all rfl) (by decide) (by rfl) (by decide) (by rfl) ?_)))
local macro_rules | `(tactic| walk_at "ite") => `(tactic| (k_extra "ite"))
local macro_rules | `(tactic| walk_at "subscriptTail") => `(tactic| (k_extra "sub"))
local macro_rules | `(tactic| walk_at "call ref") => `(tactic| (k_extra "use"))
local macro_rules | `(tactic| walk_at "call builtin:len") => `(tactic| (k_extra "len"))
local macro_rules | `(tactic| walk_at "storeName") => `(tactic| (k_extra "store"))
local macro_rules | `(tactic| walk_at "subscriptTail Name Name ref int") => `(tactic| (k_extra "sub"))
local macro_rules | `(tactic| walk_at "subscriptTail Subscript Name ref int") => `(tactic| (k_extra "sub"))
local macro_rules | `(tactic| walk_at "subscriptTail Subscript Constant ref int") => `(tactic| (k_extra "sub"))
local macro_rules | `(tactic| walk_at "subscriptTail Name Constant ref int") => `(tactic| (k_extra "sub"))
local macro_rules | `(tactic| walk_at "subscriptTail Name BinOp ref int") => `(tactic| (k_extra "sub"))
local macro_rules | `(tactic| walk_at "setItem ref int") => `(tactic| (k_extra "set"))
local macro_rules | `(tactic| walk_at "setItem ref int ref") => `(tactic| (k_extra "set"))
local macro_rules | `(tactic| walk_at "binaryOp Pow int int") => `(tactic| (k_extra "pow"))
local macro_rules | `(tactic| walk_at "binaryOp Mult int int") => `(tactic| (k_extra "mul"))
local macro_rules | `(tactic| walk_at "callWith ref") => `(tactic| (k_extra "callee"))
local macro_rules | `(tactic| walk_at "call type:enumerate") => `(tactic| (k_extra "enum"))
local macro_rules | `(tactic| walk_at "call type:zip") => `(tactic| (k_extra "zip for"))
local macro_rules | `(tactic| walk_at "eval Call") => `(tactic| (k_extra "call"))
local macro_rules | `(tactic| walk_at "call builtin:list.append") => `(tactic| (k_extra "append"))
local macro_rules | `(tactic| walk_at "binaryOp Mult ref int") => `(tactic| (k_extra "mult"))
local macro_rules | `(tactic| walk_at "UnrEnd") => `(tactic| (k_extra "turn end"))
local macro_rules | `(tactic| walk_at "compareOp NotEq ref ref") => `(tactic| (k_extra "ne"))
local macro_rules | `(tactic| walk_at "subscriptTail Name Slice ref ref") => `(tactic| (k_extra "slice"))
local macro_rules | `(tactic| walk_at "binaryOp Add ref ref") => `(tactic| (k_extra "add"))
local macro_rules | `(tactic| walk_at "eval Lambda") => `(tactic| (k_extra "lambda"))
local macro_rules | `(tactic| k_all) => `(tactic| assumption)

def gcdZ (x y : Int) : Int := ((Int.gcd x y : Nat) : Int)
theorem gcd_step (a b x y : Int) (h : gcdZ x y = gcdZ a b) (hx : 0 ≤ x) (hy : 0 < y) : 0 ≤ y ∧ 0 ≤ x.fmod y ∧ gcdZ y (x.fmod y) = gcdZ a b := by
  refine ⟨Int.le_of_lt hy, Int.fmod_nonneg hx (Int.le_of_lt hy), ?_⟩
  rw [← h]
  unfold gcdZ
  congr 1
  rw [Int.fmod_eq_emod_of_nonneg _ (Int.le_of_lt hy)]
  obtain ⟨m, rfl⟩ := Int.eq_ofNat_of_zero_le hx
  obtain ⟨n, rfl⟩ := Int.eq_ofNat_of_zero_le (Int.le_of_lt hy)
  rw [← Int.natCast_emod]
  simp only [Int.gcd_natCast_natCast]
  rw [Nat.gcd_comm m n, Nat.gcd_rec n m, Nat.gcd_comm]
theorem gcd_abs (a b : Int) : gcdZ (if a < 0 then -a else a) (if b < 0 then -b else b) = gcdZ a b := by
  unfold gcdZ
  split <;> split <;> simp
theorem gcd_start (a b : Int) : 0 ≤ (if a < 0 then -a else a) ∧ 0 ≤ (if b < 0 then -b else b) ∧ gcdZ (if a < 0 then -a else a) (if b < 0 then -b else b) = gcdZ (if a < 0 then -a else a) (if b < 0 then -b else b) := by
  refine ⟨?_, ?_, rfl⟩ <;> split <;> omega
theorem gcd_end {a b x y : Int} (h : gcdZ x y = gcdZ (if a < 0 then -a else a) (if b < 0 then -b else b)) (hx : 0 ≤ x) (hy : 0 ≤ y) (hn : ¬ 0 < y) : x = gcdZ a b := by
  have : y = 0 := by omega
  subst this
  rw [gcd_abs] at h
  rw [← h]
  unfold gcdZ
  simp
  omega
theorem gcd_less {x y : Int} (hy : 0 < y) : (x.fmod y).toNat < y.toNat := by
  have := Int.fmod_lt_of_pos x hy
  omega

set_option maxHeartbeats 8000000 in
theorem gcd_ok {w : World} {x y : Int} {t u : Tok} {news : Led} : CallOK w 63 1 [.int x t, .int y u] news (IntPost (gcdZ x y) news) := by
  unfold CallOK
  k_fill
  k_with_none
  intro p loose mean mg mb dp un gd cn cs a ccd cl outer A₀ base h₀ L m s Q E B F X N T hk hd hu hret
  refine wpAny_call ?_
  k_dflt ktr_enter
  k_with "exec While Compare cons nil" => k_while_given ["one!", "other!"] (fun o₀ p₀ script x y => 0 ≤ x ∧ 0 ≤ y ∧ gcdZ x y = gcdZ o₀ p₀) (fun o₀ p₀ script x y => y.toNat) "one" "other"
  k_with "state" => first | exact gcd_start _ _ | exact gcd_step _ _ _ _ (by assumption) (by assumption) (by assumption)
  k_with "measure" => exact gcd_less (by assumption)
  k_steps
  exact hret _ _ _ _ ⟨_, congrArg (Value.int · _) (gcd_end (by assumption) (by assumption) (by assumption) (by assumption)), rfl⟩ (by assumption) (cb_drop (by assumption) (fun _ h => .tail _ h))

def fr (a b : Int) : Int × Int := let p := if 0 < b then gcdZ a b else -gcdZ a b; (a.fdiv p, b.fdiv p)
theorem fr_pos {a b : Int} (h : 0 < b) : fr a b = (a.fdiv (gcdZ a b), b.fdiv (gcdZ a b)) := by simp [fr, h]
theorem fr_neg {a b : Int} (h : ¬ 0 < b) : fr a b = (a.fdiv (-gcdZ a b), b.fdiv (-gcdZ a b)) := by simp [fr, h]
theorem gcdZ_ne {a b : Int} (h : b ≠ 0) : gcdZ a b ≠ 0 := by
  unfold gcdZ
  intro e
  have := Int.ofNat_eq_zero.mp e
  rw [Int.gcd_eq_zero_iff] at this
  exact h this.2
theorem gcdZ_py {a b x : Int} (h : b ≠ 0) (hb : b.natAbs < 2 ^ 200) : Builtin.divisionGoesByPylong x (gcdZ a b) = false := by
  refine PyProof.noPylong_of_log2 ?_
  have h1 : (gcdZ a b).natAbs ≤ b.natAbs := by
    unfold gcdZ
    rw [Int.natAbs_natCast]
    exact Nat.le_of_dvd (by omega) (Int.gcd_dvd_natAbs_right a b)
  have h2 : (gcdZ a b).natAbs < 2 ^ 9000 := Nat.lt_of_le_of_lt h1 (Nat.lt_of_lt_of_le hb (Nat.pow_le_pow_right (by decide) (by decide)))
  exact (Nat.log2_lt (by have := gcdZ_ne (a := a) h; omega)).mpr h2
theorem gcdZ_py' {a b x : Int} (h : b ≠ 0) (hb : b.natAbs < 2 ^ 200) : Builtin.divisionGoesByPylong x (-gcdZ a b) = false := by
  refine PyProof.noPylong_of_log2 ?_
  rw [Int.natAbs_neg]
  have h1 : (gcdZ a b).natAbs ≤ b.natAbs := by
    unfold gcdZ
    rw [Int.natAbs_natCast]
    exact Nat.le_of_dvd (by omega) (Int.gcd_dvd_natAbs_right a b)
  have h2 : (gcdZ a b).natAbs < 2 ^ 9000 := Nat.lt_of_le_of_lt h1 (Nat.lt_of_lt_of_le hb (Nat.pow_le_pow_right (by decide) (by decide)))
  exact (Nat.log2_lt (by have := gcdZ_ne (a := a) h; omega)).mpr h2
theorem gcdZ_ne' {a b : Int} (h : b ≠ 0) : -gcdZ a b ≠ 0 := by have := gcdZ_ne (a := a) h; omega

set_option maxHeartbeats 8000000 in
theorem fr_ok {w : World} {x y : Int} {t u : Tok} {news : Led} (hy : y ≠ 0) (hb : y.natAbs < 2 ^ 200) : CallOK w 70 2 [.int x t, .int y u] news (PairPost (fr x y) news) := by
  unfold CallOK
  k_fill
  k_with_none
  intro p loose mean mg mb dp un gd cn cs a ccd cl outer A₀ base h₀ L m s Q E B F X N T hk hd hu hret
  refine wpAny_call ?_
  k_dflt ktr_enter
  k_with "use" => (refine' useInt (by k_asm) (by k_asm) gcd_ok ?k1 ?k3 ?k5 ?kK ?kd ?ku ?_; walk_at "useInt")
  k_with "binaryOp FloorDiv int int" => first | with_reducible refine floordiv_int (gcdZ_ne hy) ?_ (Or.inl (gcdZ_py hy hb)) | with_reducible refine floordiv_int (gcdZ_ne' hy) ?_ (Or.inl (gcdZ_py' hy hb))
  k_steps
  · walk_at "pairEnd" <;> rw [fr_pos (by assumption)]
  · walk_at "pairEnd" <;> rw [fr_neg (by assumption)]

/-- an int of at most 63 bits -/
def Sm (z : Int) : Bool := decide (z.natAbs < 2 ^ 63)
def Sm2 (x : Int × Int) : Bool := Sm x.1 && Sm x.2
theorem Sm.lt {z : Int} (h : Sm z = true) : z.natAbs < 2 ^ 63 := of_decide_eq_true h
theorem Sm.mul {a b : Int} (h : Sm a = true) : IntMulOk a b := .of_left (intBits_le_64 (by have := Sm.lt h; omega) (by have := Sm.lt h; omega))
theorem Sm.mulR {a b : Int} (h : Sm b = true) : IntMulOk a b := .of_right (intBits_le_64 (by have := Sm.lt h; omega) (by have := Sm.lt h; omega))
theorem Sm.prod {a b : Int} (ha : Sm a = true) (hb : Sm b = true) : (a * b).natAbs < 2 ^ 200 := by
  rw [Int.natAbs_mul]
  have h1 := Sm.lt ha
  have h2 := Sm.lt hb
  have := Nat.mul_lt_mul_of_lt_of_lt h1 h2
  exact Nat.lt_of_lt_of_le this (by decide)
theorem Sm2.left {x : Int × Int} (h : Sm2 x = true) : Sm x.1 = true := (Bool.and_eq_true_iff.mp h).1
theorem Sm2.right {x : Int × Int} (h : Sm2 x = true) : Sm x.2 = true := (Bool.and_eq_true_iff.mp h).2

/-- fraction_times, fraction_less, fraction_by, where they are safe -/
def timesO (x y : Int × Int) : Option (Int × Int) := if (Sm2 x && Sm2 y && decide (x.2 * y.2 ≠ 0)) = true then some (fr (x.1 * y.1) (x.2 * y.2)) else none
def lessO (x y : Int × Int) : Option (Int × Int) := if (Sm2 x && Sm2 y && decide (x.2 * y.2 ≠ 0)) = true then some (fr (x.1 * y.2 - y.1 * x.2) (x.2 * y.2)) else none
def byO (x y : Int × Int) : Option (Int × Int) := if (Sm2 x && Sm2 y && decide (x.2 * y.1 ≠ 0)) = true then some (fr (x.1 * y.2) (x.2 * y.1)) else none
theorem timesO_some {x y z : Int × Int} (h : timesO x y = some z) : Sm2 x = true ∧ Sm2 y = true ∧ x.2 * y.2 ≠ 0 ∧ z = fr (x.1 * y.1) (x.2 * y.2) := by
  unfold timesO at h
  split at h
  · rename_i q
    simp only [Bool.and_eq_true, decide_eq_true_eq] at q
    exact ⟨q.1.1, q.1.2, q.2, (Option.some.inj h).symm⟩
  · cases h
theorem lessO_some {x y z : Int × Int} (h : lessO x y = some z) : Sm2 x = true ∧ Sm2 y = true ∧ x.2 * y.2 ≠ 0 ∧ z = fr (x.1 * y.2 - y.1 * x.2) (x.2 * y.2) := by
  unfold lessO at h
  split at h
  · rename_i q
    simp only [Bool.and_eq_true, decide_eq_true_eq] at q
    exact ⟨q.1.1, q.1.2, q.2, (Option.some.inj h).symm⟩
  · cases h
theorem byO_some {x y z : Int × Int} (h : byO x y = some z) : Sm2 x = true ∧ Sm2 y = true ∧ x.2 * y.1 ≠ 0 ∧ z = fr (x.1 * y.2) (x.2 * y.1) := by
  unfold byO at h
  split at h
  · rename_i q
    simp only [Bool.and_eq_true, decide_eq_true_eq] at q
    exact ⟨q.1.1, q.1.2, q.2, (Option.some.inj h).symm⟩
  · cases h

-- a pair's own objects, read by their places
set_option maxHeartbeats 8000000 in
theorem times_ok {w : World} {x y z : Int × Int} {a b : Addr} {t u t' u' : Tok} {c c' : Nat} {news : Led} (ha : (a, ({ cls := .type "tuple", data := .seq #[.int x.1 t, .int x.2 u] c } : Obj)) ∈ news) (hb : (b, ({ cls := .type "tuple", data := .seq #[.int y.1 t', .int y.2 u'] c' } : Obj)) ∈ news)
    (hO : timesO x y = some z) : CallOK w 77 3 [.ref a, .ref b] news (PairPost z news) := by
  obtain ⟨sx, sy, hz, rfl⟩ := timesO_some hO
  have hs : (x.2 * y.2).natAbs < 2 ^ 200 := Sm.prod (by first | exact Sm2.right sx | exact Sm2.left sx) (by first | exact Sm2.right sy | exact Sm2.left sy)
  unfold CallOK
  k_fill
  k_with_none
  intro p loose mean mg mb dp un gd cn cs a ccd cl outer A₀ base h₀ L m s Q E B F X N T hk hd hu hret
  refine wpAny_call ?_
  k_dflt ktr_enter
  k_with "use" => (refine' usePair (by k_asm) (by k_asm) (fr_ok hz hs) ?k1 ?k3 ?k5 ?kK ?kd ?ku ?_; walk_at "usePair")
  k_with "binaryOp Mult int int" => with_reducible refine mul_int ?_ (Sm.mul (by first | exact Sm2.left sx | exact Sm2.right sx | exact Sm2.left sy | exact Sm2.right sy))
  k_steps
  walk_at "pairEnd" <;> rfl
set_option maxHeartbeats 8000000 in
theorem less_ok {w : World} {x y z : Int × Int} {a b : Addr} {t u t' u' : Tok} {c c' : Nat} {news : Led} (ha : (a, ({ cls := .type "tuple", data := .seq #[.int x.1 t, .int x.2 u] c } : Obj)) ∈ news) (hb : (b, ({ cls := .type "tuple", data := .seq #[.int y.1 t', .int y.2 u'] c' } : Obj)) ∈ news)
    (hO : lessO x y = some z) : CallOK w 84 3 [.ref a, .ref b] news (PairPost z news) := by
  obtain ⟨sx, sy, hz, rfl⟩ := lessO_some hO
  have hs : (x.2 * y.2).natAbs < 2 ^ 200 := Sm.prod (by first | exact Sm2.right sx | exact Sm2.left sx) (by first | exact Sm2.right sy | exact Sm2.left sy)
  unfold CallOK
  k_fill
  k_with_none
  intro p loose mean mg mb dp un gd cn cs a ccd cl outer A₀ base h₀ L m s Q E B F X N T hk hd hu hret
  refine wpAny_call ?_
  k_dflt ktr_enter
  k_with "use" => (refine' usePair (by k_asm) (by k_asm) (fr_ok hz hs) ?k1 ?k3 ?k5 ?kK ?kd ?ku ?_; walk_at "usePair")
  k_with "binaryOp Mult int int" => with_reducible refine mul_int ?_ (Sm.mul (by first | exact Sm2.left sx | exact Sm2.right sx | exact Sm2.left sy | exact Sm2.right sy))
  k_steps
  walk_at "pairEnd" <;> rfl
set_option maxHeartbeats 8000000 in
theorem over_ok {w : World} {x y z : Int × Int} {a b : Addr} {t u t' u' : Tok} {c c' : Nat} {news : Led} (ha : (a, ({ cls := .type "tuple", data := .seq #[.int x.1 t, .int x.2 u] c } : Obj)) ∈ news) (hb : (b, ({ cls := .type "tuple", data := .seq #[.int y.1 t', .int y.2 u'] c' } : Obj)) ∈ news)
    (hO : byO x y = some z) : CallOK w 91 3 [.ref a, .ref b] news (PairPost z news) := by
  obtain ⟨sx, sy, hz, rfl⟩ := byO_some hO
  have hs : (x.2 * y.1).natAbs < 2 ^ 200 := Sm.prod (by first | exact Sm2.right sx | exact Sm2.left sx) (by first | exact Sm2.right sy | exact Sm2.left sy)
  unfold CallOK
  k_fill
  k_with_none
  intro p loose mean mg mb dp un gd cn cs a ccd cl outer A₀ base h₀ L m s Q E B F X N T hk hd hu hret
  refine wpAny_call ?_
  k_dflt ktr_enter
  k_with "use" => (refine' usePair (by k_asm) (by k_asm) (fr_ok hz hs) ?k1 ?k3 ?k5 ?kK ?kd ?ku ?_; walk_at "usePair")
  k_with "binaryOp Mult int int" => with_reducible refine mul_int ?_ (Sm.mul (by first | exact Sm2.left sx | exact Sm2.right sx | exact Sm2.left sy | exact Sm2.right sy))
  k_steps
  walk_at "pairEnd" <;> rfl

inductive All2 {α β : Type} (R : α → β → Prop) : List α → List β → Prop
  | nil : All2 R [] []
  | cons {a : α} {b : β} {as : List α} {bs : List β} : R a b → All2 R as bs → All2 R (a :: as) (b :: bs)
section
variable {α β : Type} {R R' : α → β → Prop} {as as' : List α} {bs bs' : List β}
theorem All2.length (h : All2 R as bs) : as.length = bs.length := by
  induction h with
  | nil => rfl
  | cons _ _ ih => simp [ih]
theorem All2.mono (h : All2 R as bs) (hr : ∀ a b, R a b → R' a b) : All2 R' as bs := by
  induction h with
  | nil => exact .nil
  | cons h _ ih => exact .cons (hr _ _ h) ih
theorem All2.append (h : All2 R as bs) (h' : All2 R as' bs') : All2 R (as ++ as') (bs ++ bs') := by
  induction h with
  | nil => exact h'
  | cons h _ ih => exact .cons h ih
theorem All2.get (h : All2 R as bs) {i : Nat} {b : β} (hb : bs[i]? = some b) : ∃ a, as[i]? = some a ∧ R a b := by
  induction h generalizing i with
  | nil => simp at hb
  | cons h _ ih =>
    cases i with
    | zero => simp only [List.getElem?_cons_zero, Option.some.injEq] at hb ⊢; subst hb; exact ⟨_, rfl, h⟩
    | succ i => simp only [List.getElem?_cons_succ] at hb ⊢; exact ih hb
theorem All2.get' (h : All2 R as bs) {i : Nat} {a : α} (ha : as[i]? = some a) : ∃ b, bs[i]? = some b ∧ R a b := by
  induction h generalizing i with
  | nil => simp at ha
  | cons h _ ih =>
    cases i with
    | zero => simp only [List.getElem?_cons_zero, Option.some.injEq] at ha ⊢; subst ha; exact ⟨_, rfl, h⟩
    | succ i => simp only [List.getElem?_cons_succ] at ha ⊢; exact ih ha
theorem All2.set (h : All2 R as bs) {i : Nat} {a : α} {b : β} (hr : R a b) : All2 R (as.set i a) (bs.set i b) := by
  induction h generalizing i with
  | nil => exact .nil
  | cons h q ih =>
    cases i with
    | zero => exact .cons hr q
    | succ i => exact .cons h ih
end

/-- the ledger bears the pair x at v -/
def PairIn (news : Led) (v : Value) (x : Int × Int) : Prop := ∃ a t u c, v = .ref a ∧ (a, ({ cls := .type "tuple", data := .seq #[.int x.1 t, .int x.2 u] c } : Obj)) ∈ news
def RowIn (news : Led) (v : Value) (r : List (Int × Int)) : Prop := ∃ a vs c, v = .ref a ∧ (a, listOf vs.toArray c) ∈ news ∧ All2 (PairIn news) vs r
theorem PairIn.mono {news news' : Led} (hs : ∀ p ∈ news, p ∈ news') {v : Value} {x : Int × Int} (h : PairIn news v x) : PairIn news' v x := by
  obtain ⟨a, t, u, c, rfl, hm⟩ := h
  exact ⟨a, t, u, c, rfl, hs _ hm⟩
theorem RowIn.mono {news news' : Led} (hs : ∀ p ∈ news, p ∈ news') {v : Value} {x : List (Int × Int)} (h : RowIn news v x) : RowIn news' v x := by
  obtain ⟨a, vs, c, rfl, hm, ha⟩ := h
  exact ⟨a, vs, c, rfl, hs _ hm, ha.mono fun _ _ => PairIn.mono hs⟩
theorem PairIn.handed {news : Led} {v : Value} {x : Int × Int} (h : PairIn news v x) : handedIn v = true := by
  obtain ⟨a, t, u, c, rfl, hm⟩ := h
  rfl

section
variable {prog : Program} {w : World} {A : Around} {E : Value → Shared → Prop} {s : Shared} {h₀ : Heap} {L : Addr} {news : Led}
theorem newsList {h : Heap} {l : Addr} {its : Array Value} {c : Nat} (N : News h₀ L h news) (hm : (l, listOf its c) ∈ news) : h.IsList l its := ⟨_, (N _ hm).1, rfl, _, rfl⟩
theorem sub_at {value slice : PySem.Expr} {l : Addr} {vs : List Value} {c : Nat} {k : Int} {u : Tok} {v : Value} {Q : Value → Shared → Prop}
    (N : News h₀ L s.heap news) (hm : (l, listOf vs.toArray c) ∈ news) (h0 : 0 ≤ k) (hk : k < 2 ^ 63) (hx : vs[k.toNat]? = some v) (h : Q v s)
    (hs : subscripted slice false (.ref l) (.int k u) = operate [.ref l, .int k u] (getItem (.ref l) (.int k u)) := by with_unfolding_all rfl) :
    wpAny (model prog w) A (subscriptTail value slice (.ref l) (.int k u)) Q E s :=
  tail_any (newsList N hm).typeIs slot_list_getitem.lookup (wpAny_getItem_list (newsList N hm) h0 hk (by simpa using hx) h) hs
theorem sub_row {value slice : PySem.Expr} {l : Addr} {vs : List Value} {c : Nat} {k : Int} {u : Tok} {g : List (List (Int × Int))} {r : List (Int × Int)} {news' : Led} {Q : Value → Shared → Prop}
    (N : News h₀ L s.heap news) (hm : (l, listOf vs.toArray c) ∈ news) (hall : All2 (RowIn news') vs g) (h0 : 0 ≤ k) (hk : k < 2 ^ 63) (hx : g[k.toNat]? = some r)
    (h : ∀ a vs' c', (a, listOf vs'.toArray c') ∈ news' → All2 (PairIn news') vs' r → Q (.ref a) s)
    (hs : subscripted slice false (.ref l) (.int k u) = operate [.ref l, .int k u] (getItem (.ref l) (.int k u)) := by with_unfolding_all rfl) :
    wpAny (model prog w) A (subscriptTail value slice (.ref l) (.int k u)) Q E s := by
  obtain ⟨v, hv, a, vs', c', rfl, hm', ha⟩ := hall.get hx
  exact sub_at N hm h0 hk hv (h _ _ _ hm' ha) hs
theorem sub_pair {value slice : PySem.Expr} {l : Addr} {vs : List Value} {c : Nat} {k : Int} {u : Tok} {r : List (Int × Int)} {x : Int × Int} {news' : Led} {Q : Value → Shared → Prop}
    (N : News h₀ L s.heap news) (hm : (l, listOf vs.toArray c) ∈ news) (hall : All2 (PairIn news') vs r) (h0 : 0 ≤ k) (hk : k < 2 ^ 63) (hx : r[k.toNat]? = some x)
    (h : ∀ a t t' c', (a, ({ cls := .type "tuple", data := .seq #[.int x.1 t, .int x.2 t'] c' } : Obj)) ∈ news' → Q (.ref a) s)
    (hs : subscripted slice false (.ref l) (.int k u) = operate [.ref l, .int k u] (getItem (.ref l) (.int k u)) := by with_unfolding_all rfl) :
    wpAny (model prog w) A (subscriptTail value slice (.ref l) (.int k u)) Q E s := by
  obtain ⟨v, hv, a, t, t', c', rfl, hm'⟩ := hall.get hx
  exact sub_at N hm h0 hk hv (h _ _ _ _ hm') hs
theorem len_at {l : Addr} {vs : List Value} {c : Nat} {n : Nat} {Q : Value → Shared → Prop} (N : News h₀ L s.heap news) (hm : (l, listOf vs.toArray c) ∈ news) (hn : vs.length = n) (hfit : n < 2 ^ 20)
    (h : Q (.int (n : Int) (s.toks + 1)) { s with toks := s.toks + 1 + 1 }) : wpAny (model prog w) A (call (.builtin "len") [.ref l]) Q E s :=
  len_list (newsList N hm) (by simp only [List.size_toArray]; omega) (by simpa [hn] using h)
end

set_option maxHeartbeats 8000000 in
theorem pivot_ok {w : World} {R : Addr} {vs : List Value} {c : Nat} {at' : Nat} {t : Tok} {g : List (List (Int × Int))} {r : List (Int × Int)} {x : Int × Int} {news news' : Led} (hR : (R, listOf vs.toArray c) ∈ news) (hs : ∀ p ∈ news', p ∈ news)
    (hall : All2 (RowIn news') vs g) (hlen : g.length < 2 ^ 20) (hr : g[at']? = some r) (hx : r[at']? = some x) (hne : x.1 ≠ 0) : CallOK w 98 1 [.ref R, .int at' t] news (IntPost at' news) := by
  have hlt : at' < g.length := (List.getElem?_eq_some_iff.mp hr).1
  have hvl : vs.length = g.length := hall.length
  have hr' : g[(at' : Int).toNat]? = some r := hr
  have hx' : r[(at' : Int).toNat]? = some x := hx
  have hall' : All2 (RowIn news) vs g := hall.mono fun _ _ => RowIn.mono hs
  clear hall
  unfold CallOK
  k_fill
  k_with_none
  intro p loose mean mg mb dp un gd cn cs a ccd cl outer A₀ base h₀ L m s Q E B F X N T hk hd hu hret
  refine wpAny_call ?_
  k_dflt ktr_enter
  k_with "len" => (refine len_at (by assumption) (by k_mem) (by assumption) (by assumption) ?_)
  k_with "pyIter ref" => kf1_first
  k_with "sub" => first
    | (refine sub_row (by assumption) (by k_mem) (by assumption) (by omega) (by omega) (by assumption) ?_; intro a' vs' c' hm' ha')
    | (refine sub_pair (by assumption) (by k_mem) (by assumption) (by omega) (by omega) (by assumption) ?_; intro a' t' u' c' hm')
  k_steps
  walk_at "intEnd"
  rfl

section
open PySem.Spec PySem.Calls PyProof.Rows.LCg
variable {prog : Program} {w : World} {A : Around} {E : Value → Shared → Prop} {s : Shared} {h₀ : Heap} {L : Addr} {m : Str → Option Value} {env : Env}

/-- what a turn's element leaves behind: the loop's own objects as they were, the ledger grown -/
def ZEnd (h₀ : Heap) (L : Addr) (m : Str → Option Value) (s₁ : Shared) (its : Led) (ws : List Addr) (C D : Addr) (oC oD : Obj) (J : Value → Led → Prop) (y : Value) (s₂ : Shared) : Prop :=
  ∃ h' tk nx, s₂ = { s₁ with heap := h', toks := tk } ∧ Fr h₀ L h' m ∧ News h₀ L h' (its ++ (C, oC) :: (D, oD) :: nx) ∧ (∀ p ∈ nx, p.1 ∉ ws ∧ p.1 ≠ C ∧ p.1 ≠ D) ∧ J y nx

theorem zip_block {elt iter : PySem.Expr} {x x₂ : Str} {px px₂ tp : Pos} {tk : Nat} {scope : Scope} {cl : List (Str × Addr)} {pos : Pos} {s₂ : Shared} {I : Addr} {fp wr : List Addr} {n : Nat} {P Md : Nat → Value → Heap → Prop} {St : Nat → Heap → Prop} {ws : List (Addr × String)} {keep news : Led}
    {Item : Nat → Value → Value → Prop} {RR : Value → Addr → Result → Shared → Prop}
    (W : KTurns prog w A (.Tuple [.Name x px, .Name x₂ px₂] tk tp) I fp wr n P Md St) (hsz : n ≤ sizeLine) (hh : A.handled = none)
    (hP : ∀ i v h, P i v h → ∃ T a b, v = .ref T ∧ IsTup h T #[a, b] ∧ Item i a b)
    (hobj : ∀ i h, St i h → ∃ its, Objs ws its ∧ ∀ p ∈ its, h.get? p.1 = some p.2)
    (hself : ∀ (s : Shared) (Q : Value → Shared → Prop) (E : Value → Shared → Prop), St 0 s.heap → Q (.ref I) s → wpAny (model prog w) A (pyIter (.ref I)) Q E s)
    (hws : ∀ b ∈ ws.map (·.1), b ∈ fp ∧ h₀.get? b = none) (hwr : ∀ b ∈ wr, b ∈ ws.map (·.1)) (hfp : ∀ b ∈ fp, b ∈ ws.map (·.1) ∨ ∃ o, (b, o) ∈ keep) (hL : L ∉ fp) (hlt : ∀ b ∈ fp, b < s₂.heap.objs.size)
    (hcell : ∀ y ∈ scope.names, y.2 ≠ .cell) (hkind : scope.kind = .function) (hx : scope.names.lookup x = some .local) (hx₂ : scope.names.lookup x₂ = some .local) (hxx : x ≠ x₂)
    (hst : St 0 s₂.heap) (F : Fr h₀ L s₂.heap m) (N : News h₀ L s₂.heap news) (hnw : ∀ p ∈ news, p.1 ∉ ws.map (·.1)) (hk : ∀ p ∈ keep, p ∈ news)
    (J : Nat → List Value → Led → Prop) (h0 : J 0 [] news)
    (turn : ∀ i a b C oC D m₂ its zs nx h tk' (E' : Value → Shared → Prop), i < n → Item i a b → J i zs nx → (∀ p ∈ keep, p ∈ nx) → Objs ws its → NsObj oC m₂ → m₂ x = some a → m₂ x₂ = some b →
      Fr h₀ L h m → News h₀ L h (its ++ (C, oC) :: (D, lst zs) :: nx) → (∀ p ∈ nx, p.1 ∉ ws.map (·.1) ∧ p.1 ≠ C ∧ p.1 ≠ D) →
      wpAny (model prog w) A (eval elt (compEnvC scope cl C env)) (ZEnd h₀ L m { s₂ with heap := h, toks := tk' } its (ws.map (·.1)) C D oC (lst zs) (fun y nx' => (∀ p ∈ keep, p ∈ nx') ∧ J (i + 1) (zs ++ [y]) nx')) E' { s₂ with heap := h, toks := tk' })
    (hRR : ∀ D C h tk' m' zs nx, (∀ p ∈ news, p.1 < D) → Fr h₀ L h m → News h₀ L h ((D, lst zs) :: nx) → (∀ p ∈ nx, p.1 ≠ D) → h.Ns C m' → h₀.get? C = none → h₀.get? D = none → C ≠ L → D ≠ L → C ≠ D → (∀ p ∈ nx, p.1 ≠ C) → J n zs nx → RR (.ref D) C (.ok .next) { s₂ with heap := h, toks := tk' }) :
    wpAny (model prog w) A (newList []) (fun acc s₃ => wpAny (model prog w) A (newFunctionEnv scope env.globals cl [] env.qual none .none (some env)) (fun cenv s₄ =>
      codeAny (model prog w) A (.compStart (.ListComp elt [⟨.Tuple [.Name x px, .Name x₂ px₂] tk tp, iter, [], 0⟩] scope pos) 0 (.ref I) acc { cenv with scope := relabel scope env }) (RR acc cenv.locals) s₄) E s₃) E s₂ := by
  refine wpAny_newObj_type (wpAny_newFunctionEnv hcell (by intro y hy; simp at hy) (fun h₁ hns₁ hsb₁ => ?_) hkind)
  dsimp only at hns₁ hsb₁ ⊢
  generalize hH2 : s₂.heap.push { cls := .type "list", dict := none, data := .seq ([] : List Value).toArray } = H2 at hns₁ hsb₁ ⊢
  have hC : H2.objs.size = s₂.heap.objs.size + 1 := by rw [← hH2, Heap.size_push]
  have hDC : s₂.heap.objs.size ≠ H2.objs.size := by rw [hC]; exact Nat.ne_of_lt (Nat.lt_succ_self _)
  have below : ∀ b, b < s₂.heap.objs.size → b ≠ H2.objs.size ∧ b ≠ s₂.heap.objs.size := fun b hb => ⟨by rw [hC]; exact Nat.ne_of_lt (Nat.lt_succ_of_lt hb), Nat.ne_of_lt hb⟩
  have hDf : s₂.heap.objs.size ∉ fp := fun hm => Nat.lt_irrefl _ (hlt _ hm)
  have hCf : H2.objs.size ∉ fp := fun hm => by have := hlt _ hm; rw [hC] at this; exact Nat.lt_irrefl _ (Nat.lt_of_succ_lt this)
  have old : ∀ b o, s₂.heap.get? b = some o → h₁.get? b = some o := fun b o e => hsb₁.extBut b o (below b (Heap.lt_size e)).1 (Heap.get?_push_of_some _ (hH2 ▸ Heap.get?_push_of_some _ e))
  have hacc : h₁.get? s₂.heap.objs.size = some (lst []) := hsb₁.extBut _ _ hDC (Heap.get?_push_of_some _ (hH2 ▸ Heap.get?_push_size _ rfl))
  have hst₁ : St 0 h₁ := W.frame _ _ _ hst fun b _ o e => old b o e
  have fresh : ∀ a, s₂.heap.objs.size ≤ a → s₂.heap.get? a = none := fun a ha => by
    cases e : s₂.heap.get? a with
    | none => rfl
    | some o' => exact absurd (Heap.lt_size e) (Nat.not_lt.mpr ha)
  have fresh₀ : ∀ a, s₂.heap.objs.size ≤ a → h₀.get? a = none := fun a ha => by
    cases e : h₀.get? a with
    | none => rfl
    | some o' => have := F.keep a o' e; rw [fresh a ha] at this; cases this
  have hD₀ : h₀.get? s₂.heap.objs.size = none := fresh₀ _ (Nat.le_refl _)
  have hC₀ : h₀.get? H2.objs.size = none := fresh₀ _ (by rw [hC]; exact Nat.le_succ _)
  have hLlt : L < s₂.heap.objs.size := F.ns.lt
  have hDL : s₂.heap.objs.size ≠ L := Ne.symm (below L hLlt).2
  have hCL : H2.objs.size ≠ L := Ne.symm (below L hLlt).1
  have hwf : ∀ b ∈ wr, b ∈ fp := W.sub
  have wrL : L ∉ wr := fun h => hL (hwf _ h)
  have wr0 : ∀ b ∈ wr, h₀.get? b = none := fun b hb => (hws b (hwr b hb)).2
  have wrC : H2.objs.size ∉ wr := fun h => hCf (hwf _ h)
  have wrD : s₂.heap.objs.size ∉ wr := fun h => hDf (hwf _ h)
  have wsC : H2.objs.size ∉ ws.map (·.1) := fun h => hCf (hws _ h).1
  have wsD : s₂.heap.objs.size ∉ ws.map (·.1) := fun h => hDf (hws _ h).1
  have off₀ : ∀ p ∈ news, p.1 ∉ ws.map (·.1) ∧ p.1 ≠ H2.objs.size ∧ p.1 ≠ s₂.heap.objs.size := fun p hp => ⟨hnw p hp, (below _ (Heap.lt_size (N p hp).1)).1, (below _ (Heap.lt_size (N p hp).1)).2⟩
  have frBut : ∀ {h h' : Heap} {m : Str → Option Value}, Fr h₀ L h m → (∀ b o, b ∉ wr → h.get? b = some o → h'.get? b = some o) → Fr h₀ L h' m := fun F hk =>
    ⟨F.ns.at' fun o e => hk L o wrL e, fun b o e => hk b o (fun hm => by rw [wr0 b hm] at e; cases e) (F.keep b o e), F.above⟩
  have newsBut : ∀ {h h' : Heap} {nx : Led}, News h₀ L h nx → (∀ b o, b ∉ wr → h.get? b = some o → h'.get? b = some o) → (∀ p ∈ nx, p.1 ∉ wr) → News h₀ L h' nx := fun N hk hn p hp => ⟨hk _ _ (hn p hp) (N p hp).1, (N p hp).2⟩
  have loop : ∀ s₃ : Shared, s₃ = { s₂ with heap := h₁, toks := s₂.toks + ([] : List (Str × Value)).length } →
      codeAny (model prog w) A (.compLoop (.ListComp elt [⟨.Tuple [.Name x px, .Name x₂ px₂] tk tp, iter, [], 0⟩] scope pos) 0 (.ref I) (.ref s₂.heap.objs.size) (compEnvC scope cl H2.objs.size env))
        (RR (.ref s₂.heap.objs.size) H2.objs.size) s₃ := by
    rintro s₃ rfl
    refine LCp.codeAny_compLoop_pair
      (fun k s' => ∃ h' tk' i zs m' nx, s' = { s₂ with heap := h', toks := tk' } ∧ i ≤ n ∧ k = n + 1 - i ∧ zs.length = i ∧ St i h' ∧ Fr h₀ L h' m ∧ h'.Ns H2.objs.size m' ∧ News h₀ L h' ((s₂.heap.objs.size, lst zs) :: nx) ∧
        (∀ p ∈ nx, p.1 ∉ ws.map (·.1) ∧ p.1 ≠ H2.objs.size ∧ p.1 ≠ s₂.heap.objs.size) ∧ (∀ p ∈ keep, p ∈ nx) ∧ J i zs nx) ?_ (n + 1)
      ⟨h₁, _, 0, [], _, news, rfl, Nat.zero_le _, rfl, rfl, hst₁, F.keeps old, hns₁, fun p hp => ?_, off₀, hk, h0⟩
    · rintro k s' ⟨h', tk', i, zs, m', nx, rfl, hi, rfl, hzl, hst', F', hn', N', off', hkn, hJ⟩
      have nwr : ∀ p ∈ (s₂.heap.objs.size, lst zs) :: nx, p.1 ∉ wr := fun p hp => by
        rcases List.mem_cons.mp hp with rfl | hp
        · exact wrD
        · exact fun h => (off' p hp).1 (hwr _ h)
      by_cases hlt' : i < n
      · refine W.item i _ _ _ hlt' hst' fun v h₂ tk₂ hMd hk₂ => ?_
        refine W.go i v _ _ _ hMd fun h₃ hPv hst₃ hk₃ => ?_
        have hk23 : ∀ b o, b ∉ wr → h'.get? b = some o → h₃.get? b = some o := fun b o hb e => hk₃ b o hb (hk₂ b o hb e)
        obtain ⟨T, a, b, rfl, ht, hIt⟩ := hP i v h₃ hPv
        have N₃ := newsBut N' hk23 nwr
        refine assign_Tuple_tuple hh ht rfl rfl fun h₅ he => ?_
        have he' : ∀ b o, h₃.get? b = some o → h₅.get? b = some o := fun b o e => he b o (Nat.ne_of_lt (Heap.lt_size e)) e
        refine assignInOrder_cons (wpAny_assign_Name (wpAny_storeName_local (lookup_relabel_local hx) ((hn'.at' fun o e => hk23 _ o wrC e).at' fun o e => he' _ o e) (fun h₆ hn₆ hs₆ => ?_) (by simp [compEnvC, relabel, hkind])))
        refine assignInOrder_cons (wpAny_assign_Name (wpAny_storeName_local (lookup_relabel_local hx₂) hn₆ (fun h₇ hn₇ hs₇ => ?_) (by simp [compEnvC, relabel, hkind])))
        refine assignInOrder_nil ?_
        have old3 : ∀ b o, b ≠ H2.objs.size → h₃.get? b = some o → h₇.get? b = some o := fun b o hb e => hs₇.extBut b o hb (hs₆.extBut b o hb (he' b o e))
        have hst₇ : St (i + 1) h₇ := W.frame _ _ _ hst₃ fun b hb o e => old3 b o (fun q => hCf (by rw [← q]; exact hb)) e
        obtain ⟨its, hits, hval⟩ := hobj _ _ hst₇
        have hmap := hits.map
        obtain ⟨oC, heC, hoC⟩ := ns_obj hn₇
        have F₇ : Fr h₀ L h₇ m := (((frBut F' hk23).keeps he').change hs₆ hCL hC₀).change hs₇ hCL hC₀
        have N₇ : News h₀ L h₇ (its ++ (H2.objs.size, oC) :: (s₂.heap.objs.size, lst zs) :: nx) := fun p hp => by
          rcases List.mem_append.mp hp with hp | hp
          · have h1 : p.1 ∈ ws.map (·.1) := by rw [← hmap]; exact List.mem_map.mpr ⟨p, hp, rfl⟩
            exact ⟨hval p hp, fun e => hL (e ▸ (hws _ h1).1), (hws _ h1).2⟩
          · rcases List.mem_cons.mp hp with rfl | hp
            · exact ⟨heC, hCL, hC₀⟩
            · have z := N₃ p hp
              refine ⟨old3 _ _ ?_ z.1, z.2⟩
              rcases List.mem_cons.mp hp with rfl | hp
              · exact hDC
              · exact (off' p hp).2.1
        refine wpAny_mono (turn i a b H2.objs.size oC s₂.heap.objs.size _ its zs nx h₇ _ _ hlt' hIt hJ hkn hits hoC (by simp [hxx]) (by simp) F₇ N₇ off') (fun y s₄ h₄ => ?_) fun _ _ e => e
        obtain ⟨h₄, tk₄, nx', rfl, F₄, N₄, off₄, hkn₄, hJ₄⟩ := h₄
        have zI : ∀ p ∈ its, h₄.get? p.1 = some p.2 := fun p hp => (N₄ p (List.mem_append_left _ hp)).1
        have zC := (N₄ (H2.objs.size, oC) (List.mem_append_right _ List.mem_cons_self)).1
        have zD := (N₄ (s₂.heap.objs.size, lst zs) (List.mem_append_right _ (List.mem_cons_of_mem _ List.mem_cons_self))).1
        have N₄' : News h₀ L h₄ nx' := fun p hp => N₄ p (List.mem_append_right _ (List.mem_cons_of_mem _ (List.mem_cons_of_mem _ hp)))
        have hst₄ : St (i + 1) h₄ := W.frame _ _ _ hst₇ fun b hb o e => by
          rcases hfp b hb with h1 | ⟨o', h1⟩
          · rw [← hmap] at h1
            obtain ⟨q, hq, rfl⟩ := List.mem_map.mp h1
            have h2 := hval q hq
            rw [e] at h2
            rw [Option.some.inj h2]
            exact zI q hq
          · have h2 := (N₇ (b, o') (List.mem_append_right _ (List.mem_cons_of_mem _ (List.mem_cons_of_mem _ (hkn _ h1))))).1
            rw [e] at h2
            rw [Option.some.inj h2]
            exact (N₄' _ (hkn₄ _ h1)).1
        refine append_at (hsz := by show zs.toArray.size ≤ sizeLine; rw [List.size_toArray, hzl]; exact Nat.le_trans hi hsz) zD fun h₅ hs₅ hD₅ => ?_
        refine ⟨n + 1 - (i + 1), by omega, h₅, tk₄, i + 1, zs ++ [y], _, nx', rfl, hlt', rfl, by rw [List.length_append, List.length_singleton, hzl], W.frame _ _ _ hst₄ fun b hb o e => hs₅.extBut b o (fun q => hDf (q ▸ hb)) e, F₄.change hs₅ hDL hD₀,
          (hoC.ns zC).sameBut hs₅ (Ne.symm hDC), fun p hp => ?_, off₄, hkn₄, hJ₄⟩
        rcases List.mem_cons.mp hp with rfl | hp
        · exact ⟨hD₅.trans (congrArg some (lst_snoc zs y)), hDL, hD₀⟩
        · exact ⟨hs₅.extBut _ _ (off₄ p hp).2.2 (N₄' p hp).1, (N₄' p hp).2⟩
      · obtain rfl : i = n := Nat.le_antisymm hi (Nat.not_lt.mp hlt')
        refine W.done _ _ _ hst' fun h₂ tk₂ hk₂ => ?_
        exact hRR _ _ h₂ tk₂ _ zs nx (fun p hp => Heap.lt_size (N p hp).1) (frBut F' hk₂) (newsBut N' hk₂ nwr) (fun p hp => (off' p hp).2.2) (hn'.at' fun o e => hk₂ _ o wrC e) hC₀ hD₀ hCL hDL (Ne.symm hDC) (fun p hp => (off' p hp).2.1) hJ
    · rcases List.mem_cons.mp hp with rfl | hp
      · exact ⟨hacc, hDL, hD₀⟩
      · exact ⟨old _ _ (N p hp).1, (N p hp).2⟩
  exact codeAny_compStart_list (loop _ rfl) (hself _ _ _ hst₁ (loop _ rfl))

/-- behind the iterable: its iterator, the new list, the block -/
def ZipPost (prog : Program) (w : World) (A : Around) (E : Value → Shared → Prop) (env : Env) (elt iter : PySem.Expr) (x x₂ : Str) (px px₂ tp : Pos) (tk : Nat) (scope : Scope) (cl : List (Str × Addr)) (pos : Pos) (Q : Value → Shared → Prop) (xv : Value) (s₁ : Shared) : Prop :=
  wpAny (model prog w) A (pyIter xv) (fun it s₂ => wpAny (model prog w) A (newList []) (fun acc s₃ => wpAny (model prog w) A (newFunctionEnv scope env.globals cl [] env.qual none .none (some env)) (fun cenv s₄ =>
      codeAny (model prog w) A (.compStart (.ListComp elt [⟨.Tuple [.Name x px, .Name x₂ px₂] tk tp, iter, [], 0⟩] scope pos) 0 it acc { cenv with scope := relabel scope env }) (compPost (model prog w) A E none Q acc cenv.locals) s₄) E s₃) E s₂) E s₁
theorem ListComp_Z {elt iter : PySem.Expr} {x x₂ : Str} {px px₂ tp : Pos} {tk : Nat} {scope : Scope} {cl : List (Str × Addr)} {pos : Pos} {Q : Value → Shared → Prop}
    (hclos : closureFor scope env = pure cl) (hkind : scope.kind = .function) (hnames : ∀ y ∈ scope.names, y.2 = .local → scope.names.lookup y.1 = some .local)
    (h : wpAny (model prog w) A (eval iter env) (ZipPost prog w A E env elt iter x x₂ px px₂ tp tk scope cl pos Q) E s)
    (hs : ∀ x, foldedSetIterable iter env x = pure x := by intro _; rfl) :
    wpAny (model prog w) A (eval (.ListComp elt [⟨.Tuple [.Name x px, .Name x₂ px₂] tk tp, iter, [], 0⟩] scope pos) env) Q E s := by
  rw [eval_ListComp]
  exact wpAny_comprehension_free (use := none) rfl hs hclos hkind hnames h

abbrev zipWs (I : Addr) : List (Addr × String) := [(I + 4, "zip"), (I + 2, "tuple"), (I + 3, "tuple"), (I, "list_iterator"), (I + 1, "list_iterator")]
theorem zip_comp {elt iter : PySem.Expr} {x x₂ : Str} {px px₂ tp : Pos} {tk : Nat} {scope : Scope} {cl : List (Str × Addr)} {pos : Pos} {Q : Value → Shared → Prop} {l1 l2 : Addr} {xs ys : List Value} {n1 n2 : Nat} {news : Led}
    (J : Led → Nat → List Value → Led → Prop)
    (hh : A.handled = none) (F : Fr h₀ L s.heap m) (N : News h₀ L s.heap news) (hm1 : (l1, listOf xs.toArray n1) ∈ news) (hm2 : (l2, listOf ys.toArray n2) ∈ news) (hsz : xs.length ≤ sizeLine)
    (hcell : ∀ y ∈ scope.names, y.2 ≠ .cell) (hkind : scope.kind = .function) (hx : scope.names.lookup x = some .local) (hx₂ : scope.names.lookup x₂ = some .local) (hxx : x ≠ x₂)
    (h0 : J news 0 [] news)
    (turn : ∀ (I : Addr) i a b C oC D m₂ its zs nx h tk' (E' : Value → Shared → Prop), (∀ p ∈ news, p.1 < I) → xs[i]? = some a → ys[i]? = some b → J news i zs nx → (∀ p ∈ [(l1, listOf xs.toArray n1), (l2, listOf ys.toArray n2)], p ∈ nx) → Objs (zipWs I) its → NsObj oC m₂ → m₂ x = some a → m₂ x₂ = some b →
      Fr h₀ L h m → News h₀ L h (its ++ (C, oC) :: (D, lst zs) :: nx) → (∀ p ∈ nx, p.1 ∉ (zipWs I).map (·.1) ∧ p.1 ≠ C ∧ p.1 ≠ D) →
      wpAny (model prog w) A (eval elt (compEnvC scope cl C env)) (ZEnd h₀ L m { s with heap := h, toks := tk' } its ((zipWs I).map (·.1)) C D oC (lst zs) (fun y nx' => (∀ p ∈ [(l1, listOf xs.toArray n1), (l2, listOf ys.toArray n2)], p ∈ nx') ∧ J news (i + 1) (zs ++ [y]) nx')) E' { s with heap := h, toks := tk' })
    (fin : ∀ D h tk' zs nx, (∀ p ∈ news, p.1 < D) → Fr h₀ L h m → News h₀ L h ((D, lst zs) :: nx) → (∀ p ∈ nx, p.1 ≠ D) → J news (min xs.length ys.length) zs nx → Q (.ref D) { s with heap := h, toks := tk' }) :
    wpAny (model prog w) A (call (.type "zip") [.ref l1, .ref l2]) (ZipPost prog w A E env elt iter x x₂ px px₂ tp tk scope cl pos Q) E s := by
  have hax1 := N _ hm1
  have hax2 := N _ hm2
  have hl1 : s.heap.IsList l1 xs.toArray := newsList N hm1
  have hl2 : s.heap.IsList l2 ys.toArray := newsList N hm2
  have hlt1 : l1 < s.heap.objs.size := Heap.lt_size hax1.1
  have hlt2 : l2 < s.heap.objs.size := Heap.lt_size hax2.1
  have hLs : L < s.heap.objs.size := F.ns.lt
  have D : ZipApart (s.heap.objs.size + 4) (s.heap.objs.size + 2) (s.heap.objs.size + 3) s.heap.objs.size (s.heap.objs.size + 1) l1 l2 := ktu_apart _ _ _ hlt1 hlt2
  refine call_zip_2 hl1 hl2 fun h' hz hTI hTO hi1 hi2 hsz' hk' => ?_
  refine wpAny_pyIter_zip hz ?_
  refine zip_block (s₂ := { s with heap := h' }) (ws := zipWs s.heap.objs.size) (keep := [(l1, listOf xs.toArray n1), (l2, listOf ys.toArray n2)]) (news := news) (Item := fun i a b => xs[i]? = some a ∧ ys[i]? = some b)
    (KTurns.ofWalksU (WalksT.zip2 hh _ _ _ _ _ _ _ D xs.toArray ys.toArray).toU) (by simp only [List.size_toArray]; omega) hh ?_ ?_ ?_ ?_ ?_ ?_ ?_ ?_ hcell hkind hx hx₂ hxx ⟨hz, hTI, ⟨_, _, hTO⟩, hi1, hi2, hl1.at fun o e => hk' l1 o e, hl2.at fun o e => hk' l2 o e⟩
    (F.keeps hk') (N.grown hk') ?_ ?_ (J news) h0 ?_ ?_
  · rintro i v h ⟨T, vals, rfl, ⟨a, b, ha, hb, rfl⟩, hT⟩
    exact ⟨T, a, b, rfl, hT, by simpa using ha, by simpa using hb⟩
  · rintro i h ⟨hz, hTI, ⟨a, b, hTO⟩, ⟨o1, ho1, hc1, _⟩, ⟨o2, ho2, hc2, _⟩, _⟩
    have e1 : ∃ o : Obj, h.get? (s.heap.objs.size + 4) = some o ∧ o.cls = .type "zip" := ⟨_, hz, rfl⟩
    have e2 : ∃ o : Obj, h.get? (s.heap.objs.size + 2) = some o ∧ o.cls = .type "tuple" := ⟨_, hTI, rfl⟩
    have e3 : ∃ o : Obj, h.get? (s.heap.objs.size + 3) = some o ∧ o.cls = .type "tuple" := ⟨_, hTO, rfl⟩
    obtain ⟨q1, g1, k1⟩ := e1
    obtain ⟨q2, g2, k2⟩ := e2
    obtain ⟨q3, g3, k3⟩ := e3
    refine ⟨[(s.heap.objs.size + 4, q1), (s.heap.objs.size + 2, q2), (s.heap.objs.size + 3, q3), (s.heap.objs.size, o1), (s.heap.objs.size + 1, o2)], ⟨⟨rfl, k1⟩, ⟨rfl, k2⟩, ⟨rfl, k3⟩, ⟨rfl, hc1⟩, ⟨rfl, hc2⟩, trivial⟩, fun p hp => ?_⟩
    simp only [List.mem_cons, List.not_mem_nil, or_false] at hp
    rcases hp with rfl | rfl | rfl | rfl | rfl
    · exact g1
    · exact g2
    · exact g3
    · exact ho1
    · exact ho2
  · rintro s' Q' E' ⟨hz, _⟩ hq
    exact wpAny_pyIter_zip hz hq
  · intro b hb
    have hb' : b = s.heap.objs.size + 4 ∨ b = s.heap.objs.size + 2 ∨ b = s.heap.objs.size + 3 ∨ b = s.heap.objs.size ∨ b = s.heap.objs.size + 1 := by simpa using hb
    rcases hb' with rfl | rfl | rfl | rfl | rfl
    · exact ⟨by simp, ktu_new F (Nat.le_add_right _ _)⟩
    · exact ⟨by simp, ktu_new F (Nat.le_add_right _ _)⟩
    · exact ⟨by simp, ktu_new F (Nat.le_add_right _ _)⟩
    · exact ⟨by simp, ktu_new F (Nat.le_refl _)⟩
    · exact ⟨by simp, ktu_new F (Nat.le_add_right _ _)⟩
  · intro b hb
    have hb' : b = s.heap.objs.size + 4 ∨ b = s.heap.objs.size + 3 ∨ b = s.heap.objs.size ∨ b = s.heap.objs.size + 1 := by simpa using hb
    rcases hb' with rfl | rfl | rfl | rfl <;> simp
  · intro b hb
    have hb' : b = s.heap.objs.size + 4 ∨ b = s.heap.objs.size + 2 ∨ b = s.heap.objs.size + 3 ∨ b = s.heap.objs.size ∨ b = s.heap.objs.size + 1 ∨ b = l1 ∨ b = l2 := by simpa using hb
    rcases hb' with rfl | rfl | rfl | rfl | rfl | rfl | rfl
    · exact .inl (by simp)
    · exact .inl (by simp)
    · exact .inl (by simp)
    · exact .inl (by simp)
    · exact .inl (by simp)
    · exact .inr ⟨_, List.mem_cons_self⟩
    · exact .inr ⟨_, List.mem_cons_of_mem _ List.mem_cons_self⟩
  · intro hI'
    have hb' : L = s.heap.objs.size + 4 ∨ L = s.heap.objs.size + 2 ∨ L = s.heap.objs.size + 3 ∨ L = s.heap.objs.size ∨ L = s.heap.objs.size + 1 ∨ L = l1 ∨ L = l2 := by simpa using hI'
    have n1' := hax1.2.1
    have n2' := hax2.2.1
    rcases hb' with e | e | e | e | e | e | e
    · exact ktu_ne 4 hLs e
    · exact ktu_ne 2 hLs e
    · exact ktu_ne 3 hLs e
    · exact Nat.ne_of_lt hLs e
    · exact ktu_ne 1 hLs e
    · exact n1' e.symm
    · exact n2' e.symm
  · intro b hb
    show b < h'.objs.size
    rw [hsz']
    have hb' : b = s.heap.objs.size + 4 ∨ b = s.heap.objs.size + 2 ∨ b = s.heap.objs.size + 3 ∨ b = s.heap.objs.size ∨ b = s.heap.objs.size + 1 ∨ b = l1 ∨ b = l2 := by simpa using hb
    have key : ∀ a : Nat, a < s.heap.objs.size → a < s.heap.objs.size + 5 := fun a h => by omega
    rcases hb' with rfl | rfl | rfl | rfl | rfl | rfl | rfl
    · exact Nat.add_lt_add_left (by decide) _
    · exact Nat.add_lt_add_left (by decide) _
    · exact Nat.add_lt_add_left (by decide) _
    · exact Nat.lt_add_of_pos_right (by decide)
    · exact Nat.add_lt_add_left (by decide) _
    · exact key _ hlt1
    · exact key _ hlt2
  · intro p hp hI'
    have hb' : p.1 = s.heap.objs.size + 4 ∨ p.1 = s.heap.objs.size + 2 ∨ p.1 = s.heap.objs.size + 3 ∨ p.1 = s.heap.objs.size ∨ p.1 = s.heap.objs.size + 1 := by simpa using hI'
    have hlp := Heap.lt_size (N p hp).1
    rcases hb' with e | e | e | e | e
    · exact ktu_ne 4 hlp e
    · exact ktu_ne 2 hlp e
    · exact ktu_ne 3 hlp e
    · exact Nat.ne_of_lt hlp e
    · exact ktu_ne 1 hlp e
  · intro p hp
    simp only [List.mem_cons, List.not_mem_nil, or_false] at hp
    rcases hp with rfl | rfl
    · exact hm1
    · exact hm2
  · intro i a b C oC D m₂ its zs nx h tk' E' hi hIt hJ hkn hits hoC ha hb F' N' off'
    exact turn s.heap.objs.size i a b C oC D m₂ its zs nx h tk' E' (fun p hp => Heap.lt_size (N p hp).1) hIt.1 hIt.2 hJ hkn hits hoC ha hb F' N' off'
  · intro D C h tk' m' zs nx hlt' F' N' o1 hn hC₀ hD₀ hCL hDL hCD offC hJ
    refine ⟨m', hn, fun h'' hs'' => fin D h'' tk' zs nx hlt' (F'.change hs'' hCL hC₀) (fun p hp => ?_) o1 (by simpa using hJ)⟩
    refine ⟨hs''.extBut _ _ ?_ (N' p hp).1, (N' p hp).2⟩
    rcases List.mem_cons.mp hp with rfl | hp
    · exact Ne.symm hCD
    · exact offC p hp
end
local macro_rules | `(tactic| walk_at "eval ListComp") => `(tactic| (k_dflt (refine ListComp_Z (by with_unfolding_all rfl) (by rfl) (by decide) ?_)))
local macro_rules | `(tactic| walk_at "eval ListComp") => `(tactic| (k_extra "comp"))

def clearedO (f : Int × Int) : List (Int × Int) → List (Int × Int) → Option (List (Int × Int))
  | c :: cs, m :: ms => match timesO f m with
    | none => none
    | some t => match lessO c t with
      | none => none
      | some z => (clearedO f cs ms).map (z :: ·)
  | _, _ => some []
theorem clearedO_len {f : Int × Int} : ∀ {cs ms rs : List (Int × Int)}, clearedO f cs ms = some rs → rs.length = min cs.length ms.length
  | [], _, _, h => by simp only [clearedO, Option.some.injEq] at h; subst h; simp
  | _ :: _, [], _, h => by simp only [clearedO, Option.some.injEq] at h; subst h; simp
  | c :: cs, m :: ms, rs, h => by
    simp only [clearedO] at h
    split at h
    · cases h
    · split at h
      · cases h
      · obtain ⟨r, hr, rfl⟩ := Option.map_eq_some_iff.mp h
        simp only [List.length_cons, clearedO_len hr]
        omega
theorem clearedO_get {f : Int × Int} : ∀ {cs ms rs : List (Int × Int)} {i : Nat} {c m : Int × Int}, clearedO f cs ms = some rs → cs[i]? = some c → ms[i]? = some m → ∃ t z, timesO f m = some t ∧ lessO c t = some z ∧ rs[i]? = some z
  | [], _, _, _, _, _, _, hc, _ => by simp at hc
  | _ :: _, [], _, _, _, _, _, _, hm => by simp at hm
  | c' :: cs, m' :: ms, rs, i, c, m, h, hc, hm => by
    simp only [clearedO] at h
    split at h
    · cases h
    · rename_i t ht
      split at h
      · cases h
      · rename_i z hz
        obtain ⟨r, hr, rfl⟩ := Option.map_eq_some_iff.mp h
        cases i with
        | zero =>
          simp only [List.getElem?_cons_zero, Option.some.injEq] at hc hm
          subst hc; subst hm
          exact ⟨t, z, ht, hz, rfl⟩
        | succ i =>
          simp only [List.getElem?_cons_succ] at hc hm ⊢
          exact clearedO_get hr hc hm
/-- a new list of pairs, above all that stood -/
abbrev RowPost (r : List (Int × Int)) (news : Led) : Value → Led → Prop := fun v news' => ∃ D vs c tl, v = .ref D ∧ news' = (D, listOf vs.toArray c) :: (tl ++ news) ∧ All2 (PairIn tl) vs r ∧ (∀ p ∈ tl, ∀ q ∈ news, q.1 < p.1) ∧ (∀ p ∈ tl, p.1 ≠ D) ∧ AllLt D news

theorem zend {h₀ : Heap} {L : Addr} {m : Str → Option Value} {s₁ : Shared} {its : Led} {ws : List Addr} {C D : Addr} {oC oD : Obj} {J : Value → Led → Prop} {y : Value} {h' : Heap} {tk : Nat} {all : Led} (nx : Led)
    (F : Fr h₀ L h' m) (N : News h₀ L h' all) (hs : ∀ p ∈ its ++ (C, oC) :: (D, oD) :: nx, p ∈ all) (ho : ∀ p ∈ nx, p.1 ∉ ws ∧ p.1 ≠ C ∧ p.1 ≠ D) (hJ : J y nx) :
    ZEnd h₀ L m s₁ its ws C D oC oD J y { s₁ with heap := h', toks := tk } := ⟨h', tk, nx, rfl, F, fun p hp => N p (hs p hp), ho, hJ⟩
theorem above_off {D9 C D : Addr} {oC oD : Obj} {its nx : Led} {ws : List (Addr × String)} {o : Obj} (h : AllLt D9 (its ++ (C, oC) :: (D, oD) :: nx)) (hi : PySem.W.Objs ws its) (ho : ∀ p ∈ nx, p.1 ∉ ws.map (·.1) ∧ p.1 ≠ C ∧ p.1 ≠ D) :
    ∀ p ∈ (D9, o) :: nx, p.1 ∉ ws.map (·.1) ∧ p.1 ≠ C ∧ p.1 ≠ D := by
  have hlt := ktn_ltOf h
  intro p hp
  rcases List.mem_cons.mp hp with rfl | hp
  · refine ⟨fun hm => ?_, ?_, ?_⟩
    · rw [← hi.map] at hm
      obtain ⟨q, hq, e⟩ := List.mem_map.mp hm
      exact Nat.lt_irrefl _ (e ▸ hlt q (List.mem_append_left _ hq))
    · exact Nat.ne_of_gt (hlt (C, oC) (List.mem_append_right _ List.mem_cons_self))
    · exact Nat.ne_of_gt (hlt (D, oD) (List.mem_append_right _ (List.mem_cons_of_mem _ List.mem_cons_self)))
  · exact ho p hp
theorem take_snoc {α : Type} {l : List α} {i : Nat} {x : α} (h : l[i]? = some x) : l.take (i + 1) = l.take i ++ [x] := by
  rw [List.take_add_one, h]; rfl
theorem pairIn_new {D : Addr} {x : Int × Int} {t u : Tok} {c : Nat} {tl : Led} : PairIn ((D, ({ cls := .type "tuple", data := .seq #[.int x.1 t, .int x.2 u] c } : Obj)) :: tl) (.ref D) x := ⟨D, t, u, c, rfl, List.mem_cons_self⟩
theorem all2_snoc {tl : Led} {q : Addr × Obj} {zs : List Value} {rs : List (Int × Int)} {i : Nat} {z : Int × Int} {v : Value} (h : All2 (PairIn tl) zs (rs.take i)) (hz : rs[i]? = some z) (hv : PairIn (q :: tl) v z) : All2 (PairIn (q :: tl)) (zs ++ [v]) (rs.take (i + 1)) := by
  rw [take_snoc hz]
  exact (h.mono fun _ _ => PairIn.mono fun _ h => List.mem_cons_of_mem _ h).append (.cons hv .nil)

set_option maxHeartbeats 1000000 in
theorem cleared_ok {w : World} {R B' D : Addr} {vs us : List Value} {c c' d : Nat} {t u : Tok} {r b rs : List (Int × Int)} {f : Int × Int} {news : Led} (hR : (R, listOf vs.toArray c) ∈ news) (hB : (B', listOf us.toArray c') ∈ news)
    (hf : (D, ({ cls := .type "tuple", data := .seq #[.int f.1 t, .int f.2 u] d } : Obj)) ∈ news)
    (hr : All2 (PairIn news) vs r) (hb : All2 (PairIn news) us b) (hlen : r.length < 2 ^ 20) (hO : clearedO f r b = some rs) : CallOK w 103 5 [.ref R, .ref B', .ref D] news (RowPost rs news) := by
  have hsz : vs.length ≤ sizeLine := by rw [hr.length, sizeLine_eq]; omega
  unfold CallOK
  k_fill
  k_with_none
  intro p loose mean mg mb dp un gd cn cs a ccd cl outer A₀ base h₀ L m s Q E B F X N T hk hd hu hret
  refine wpAny_call ?_
  k_dflt (refine' code_defC ?k1 ?k2 ?k3 ?k4 ?k5 ?kA ?kF ?kK ?k6 ?k7 ?k8 ?k9 ?kB ?kD ?_ ?c2 ?c3 ?c4; (case kA => exact rfl); (case kF => exact rfl); (case kK => assumption); (case k1 => k_asm); (case k2 => k_asm); (case k3 => k_asm); (case k4 => k_asm); (case k5 => k_asm); (case k6 => k_is); (case k7 => k_is); (case k8 => ktr_room); (case k9 => exact BindsTo.of_eq rfl); (case kB => exact rfl); (case kD => decide +kernel); (case c2 => exact rfl); (case c3 => exact rfl); (case c4 => exact rfl); k_whole)
  intro g' L' h' tk' cells' FG' F' N' Y' B' X' T' l1
  (try k_lt l1)
  k_cells Y'
  (try simp only [List.cons_append, List.nil_append] at N')
  (try dsimp only)
  (try k_fold)
  k_with "zip comp" => (
    k_dflt (refine zip_comp (J := fun base i zs nx => ∃ tl, nx = tl ++ base ∧ All2 (PairIn tl) zs (rs.take i) ∧ (∀ p ∈ tl, ∀ q ∈ base, q.1 < p.1)) (by rfl) (by assumption) (by assumption) (by k_mem) (by k_mem) hsz (by decide) (by rfl) (by rfl) (by rfl) (by decide) ⟨[], rfl, .nil, fun _ h => nomatch h⟩ ?zt ?zf)
    (case' zt =>
      intro I i a' b' C oC D' m₂ its zs nx h9 tk9 E9 hI ha hb' hJ hkeep hits hoC hxa hxb F9 N9 off9
      refine post_gen fun Qz hQz => ?_
      obtain ⟨tl, rfl, hz, ho⟩ := hJ
      obtain ⟨x9, hx9, a9, t9, u9, c9, rfl, hm9⟩ := hr.get' ha
      obtain ⟨y9, hy9, b9, t8, u8, c8, rfl, hm8⟩ := hb.get' hb'
      obtain ⟨t7, z7, ht7, hz7, hr7⟩ := clearedO_get hO hx9 hy9)
    (case' zf => intro D' h9 tk9 zs nx hlt9 F9 N9 o9 hJ; obtain ⟨tl, rfl, hz, ho⟩ := hJ))
  k_with "use" => first
    | (refine' usePair (by k_asm) (by k_asm) (times_ok (by k_mem) (by k_mem) (by assumption)) ?k1 ?k3 ?k5 ?kK ?kd ?ku ?_; walk_at "usePair")
    | (refine' usePair (by k_asm) (by k_asm) (less_ok (by k_mem) (by k_mem) (by assumption)) ?k1 ?k3 ?k5 ?kK ?kd ?ku ?_; walk_at "usePair")
  k_steps
  · have hl : min vs.length us.length = rs.length := by rw [clearedO_len hO, hr.length, hb.length]
    rw [hl, List.take_length] at hz
    refine hret _ _ _ _ ⟨D', zs, zs.length, tl, rfl, rfl, hz, fun p hp q hq => ho p hp q (List.mem_cons_of_mem _ hq), fun p hp => o9 p (List.mem_append_left _ hp), allLt_of fun p hp => hlt9 p (List.mem_cons_of_mem _ hp)⟩ (by assumption) (cb_drop (by assumption) fun p hp => ?_)
    rcases List.mem_cons.mp hp with rfl | hp
    · exact List.mem_cons_self
    · rcases List.mem_append.mp hp with hp | hp
      · exact List.mem_cons_of_mem _ (List.mem_append_left _ hp)
      · exact List.mem_cons_of_mem _ (List.mem_append_right _ (List.mem_cons_of_mem _ hp))
  · rename_i D9 t9 u9 c9 h9 tk9 F9 N9 l9
    refine hQz _ _ (zend ((D9, pairO z7 t9 u9 c9) :: (tl ++ _)) F9 N9 (fun p hp => ?_) (above_off l9.2 hits off9) ⟨fun p hp => List.mem_cons_of_mem _ (hkeep p hp), (D9, pairO z7 t9 u9 c9) :: tl, rfl, all2_snoc hz hr7 pairIn_new, fun p hp q hq => ?_⟩)
    · rcases List.mem_append.mp hp with hp | hp
      · exact List.mem_cons_of_mem _ (List.mem_cons_of_mem _ (List.mem_append_left _ hp))
      · rcases List.mem_cons.mp hp with rfl | hp
        · exact List.mem_cons_of_mem _ (List.mem_cons_of_mem _ (List.mem_append_right _ List.mem_cons_self))
        · rcases List.mem_cons.mp hp with rfl | hp
          · exact List.mem_cons_of_mem _ (List.mem_cons_of_mem _ (List.mem_append_right _ (List.mem_cons_of_mem _ List.mem_cons_self)))
          · rcases List.mem_cons.mp hp with rfl | hp
            · exact List.mem_cons_self
            · exact List.mem_cons_of_mem _ (List.mem_cons_of_mem _ (List.mem_append_right _ (List.mem_cons_of_mem _ (List.mem_cons_of_mem _ hp))))
    · rcases List.mem_cons.mp hp with rfl | hp
      · exact ktn_ltOf l9.2 q (List.mem_append_right _ (List.mem_cons_of_mem _ (List.mem_cons_of_mem _ (List.mem_append_right _ hq))))
      · exact ho p hp q hq
theorem cleared_ok' {w : World} {R B' D : Addr} {vs us : List Value} {c c' d : Nat} {t u : Tok} {r b rs : List (Int × Int)} {f : Int × Int} {news ro : Led} (hR : (R, listOf vs.toArray c) ∈ news) (hB : (B', listOf us.toArray c') ∈ news)
    (hf : (D, ({ cls := .type "tuple", data := .seq #[.int f.1 t, .int f.2 u] d } : Obj)) ∈ news) (hs : ∀ p ∈ ro, p ∈ news)
    (hr : All2 (PairIn ro) vs r) (hb : All2 (PairIn ro) us b) (hlen : r.length < 2 ^ 20) (hO : clearedO f r b = some rs) : CallOK w 103 5 [.ref R, .ref B', .ref D] news (RowPost rs news) :=
  cleared_ok hR hB hf (hr.mono fun _ _ => PairIn.mono hs) (hb.mono fun _ _ => PairIn.mono hs) hlen hO
theorem useRow {w : World} {f : Addr} {k : Nat} {vs : List Value} {news : Led} {r : List (Int × Int)}
    {p : Program} {loose : List Str} {mean : ExcName → Option Value} {mg mb : Str → Option Value}
    {dp un : Nat} {gd : Option (List Code)} {cn : Str} {cs : Scope} {a : Addr} {ccd : Value} {cl : List (Str × Addr)} {outer : List Env} {A₀ : Around} {base h₀ : Heap} {L : Addr} {m : Str → Option Value} {s : Shared}
    {Q E : Value → Shared → Prop}
    (F : Fr h₀ L s.heap m) (N : News h₀ L s.heap news) (C : CallOK w f k vs news (RowPost r news)) (B : Below A₀ base outer h₀) (X : (hd.heap_39 w.params).In h₀) (T : Top p loose mean mg mb h₀) (hk : cs.kind = .function) (hd : dp + k < recursionLimit) (hu : un + 8 * k < cLine)
    (ret : ∀ (D : Addr) (zs : List Value) (c : Nat) (tl : Led) (h' : Heap) (tk' : Nat), Fr h₀ L h' m → News h₀ L h' ((D, listOf zs.toArray c) :: (tl ++ news)) → All2 (PairIn tl) zs r → (∀ p ∈ tl, ∀ q ∈ news, q.1 < p.1) → (∀ p ∈ tl, p.1 ≠ D) → AllLt D news → Q (.ref D) { s with heap := h', toks := tk' }) :
    wpAny (model PySem.Challenge.rw_xm0024_01.row.prog w) (ktrTop dp un gd cn cs L a ccd cl outer) (call (.ref f) vs) Q E s :=
  use C B F X N T hk hd hu (by
    rintro _ _ h' tk' ⟨D, zs, c, tl, rfl, rfl, h1, h2, h3, h4⟩ F' N'
    exact ret D zs c tl h' tk' F' N' h1 h2 h3 h4)

section
open PySem.Spec PySem.Calls PyProof.Rows.LCg
variable {prog : Program} {w : World} {A : Around} {E : Value → Shared → Prop} {s : Shared} {h₀ : Heap} {L : Addr} {m : Str → Option Value} {env : Env}
theorem off3_mem {I C D : Addr} {nx : Led} (h : Off3 I C D nx) : ∀ p ∈ nx, p.1 ∉ [I] ∧ p.1 ≠ C ∧ p.1 ≠ D := fun p hp => by
  have := h.mem p hp
  exact ⟨by simpa using this.1, this.2.1, this.2.2⟩
theorem compRest_J {elt : PySem.Expr} {x : Str} {scope : Scope} {cl : List (Str × Addr)} {S : Led → Prop} {P : Nat → Value → Prop} {Fin : List Value → Led → Prop} {n : Nat} (J : Nat → List Value → Led → Prop) (hS : ∀ i zs nx, J i zs nx → S nx)
    (turn : ∀ i v I oI C oC D m₂ zs nx h tk (E' : Value → Shared → Prop), i < n → P i v → J i zs nx → NsObj oC m₂ → m₂ x = some v → Fr h₀ L h m → News h₀ L h ([(I, oI)] ++ (C, oC) :: (D, lst zs) :: nx) → (∀ p ∈ nx, p.1 ∉ [I] ∧ p.1 ≠ C ∧ p.1 ≠ D) →
      wpAny (model prog w) A (eval elt (compEnvC scope cl C env)) (ZEnd h₀ L m { s with heap := h, toks := tk } [(I, oI)] [I] C D oC (lst zs) (fun y nx' => J (i + 1) (zs ++ [y]) nx')) E' { s with heap := h, toks := tk })
    (fin : ∀ zs nx, J n zs nx → Fin zs nx) : ∀ k i zs nx, i + k = n → J i zs nx → CompRest prog w A h₀ L m env elt x scope cl s S P Fin k i zs nx
  | 0, i, zs, nx, hi, hJ => by
    rw [Nat.add_zero] at hi
    subst hi
    exact .zero (fin _ _ hJ)
  | k + 1, i, zs, nx, hi, hJ => by
    refine .succ fun v I oI C oC D m₂ h tk E' hv hC hx F N off ne => ?_
    refine wpAny_mono (turn i v I oI C oC D m₂ zs nx h tk E' (by omega) hv hJ hC hx F N (off3_mem off)) (fun y s₂ h₂ => ?_) fun _ _ e => e
    obtain ⟨h', tk', nx', rfl, F', N', off', hJ'⟩ := h₂
    refine ⟨h', tk', nx', rfl, F', N', Off3.of fun p hp => ?_, hS _ _ _ hJ', compRest_J J hS turn fin k (i + 1) _ _ (by omega) hJ'⟩
    have := off' p hp
    exact ⟨by simpa using this.1, this.2.1, this.2.2⟩
theorem off1_of {D : Addr} : ∀ {l : Led}, Off1 D l → ∀ p ∈ l, p.1 ≠ D
  | [], _, _, h => nomatch h
  | _ :: _, x, p, h => by
    rcases List.mem_cons.mp h with rfl | h
    · exact x.1
    · exact off1_of x.2 p h

/-- a comprehension over a list of the ledger -/
theorem comp_list {elt : PySem.Expr} {x : Str} {scope : Scope} {cl : List (Str × Addr)} {l : Addr} {vs : List Value} {c : Nat} {news : Led} {Q : Value → Shared → Prop}
    (J : Led → Nat → List Value → Led → Prop) (hh : A.handled = none) (F : Fr h₀ L s.heap m) (N : News h₀ L s.heap news) (hm : (l, listOf vs.toArray c) ∈ news) (hsz : vs.length ≤ sizeLine)
    (h0 : J news 0 [] news)
    (turn : ∀ i v I oI C oC D m₂ zs nx h tk (E' : Value → Shared → Prop), vs[i]? = some v → J news i zs nx → (l, listOf vs.toArray c) ∈ nx → NsObj oC m₂ → m₂ x = some v → Fr h₀ L h m → News h₀ L h ([(I, oI)] ++ (C, oC) :: (D, lst zs) :: nx) → (∀ p ∈ nx, p.1 ∉ [I] ∧ p.1 ≠ C ∧ p.1 ≠ D) →
      wpAny (model prog w) A (eval elt (compEnvC scope cl C env)) (ZEnd h₀ L m { s with heap := h, toks := tk } [(I, oI)] [I] C D oC (lst zs) (fun y nx' => J news (i + 1) (zs ++ [y]) nx' ∧ (l, listOf vs.toArray c) ∈ nx')) E' { s with heap := h, toks := tk })
    (fin : ∀ D h tk zs nx, Fr h₀ L h m → News h₀ L h ((D, lst zs) :: nx) → (∀ p ∈ nx, p.1 ≠ D) → J news vs.length zs nx → Q (.ref D) { s with heap := h, toks := tk }) :
    CompSrc prog w A h₀ L m env elt x scope cl (fun s₂ => FinE h₀ L m s₂ Q) (.ref l) s := by
  refine CompSrc.ledger hh F N hm (by simpa using hsz) fun g => ?_
  refine compRest_J (s := { s with heap := g }) (n := vs.toArray.size) (fun i zs nx => J news i zs nx ∧ (l, listOf vs.toArray c) ∈ nx) (fun i zs nx h => .inr ⟨_, h.2, rfl, _, rfl⟩) ?_ ?_ _ 0 [] news (Nat.zero_add _) ⟨h0, hm⟩
  · intro i v I oI C oC D m₂ zs nx h tk E' _ hv hJ hC hx F' N' off
    exact turn i v I oI C oC D m₂ zs nx h tk E' (by simpa using hv) hJ.1 hJ.2 hC hx F' N' off
  · intro zs nx hJ D h tk F' N' o1
    exact fin D h tk zs nx F' N' (off1_of o1) (by simpa using hJ.1)
/-- a comprehension over a range by ones -/
theorem comp_range {elt : PySem.Expr} {x : Str} {scope : Scope} {cl : List (Str × Addr)} {r : Addr} {a b : Int} {t u v : Tok} {n : Nat} {news : Led} {Q : Value → Shared → Prop}
    (J : Led → Nat → List Value → Led → Prop) (hh : A.handled = none) (F : Fr h₀ L s.heap m) (N : News h₀ L s.heap news) (hr : IsRange s.heap r a b 1 t u v) (hsm : Builtin.Range.small a b 1 = true) (hn : Builtin.Range.rangeSize a b 1 = ((n : Nat) : Int)) (hsz : n ≤ sizeLine)
    (h0 : J news 0 [] news)
    (turn : ∀ i t I oI C oC D m₂ zs nx h tk (E' : Value → Shared → Prop), i < n → J news i zs nx → NsObj oC m₂ → m₂ x = some (.int (a + (i : Int)) t) → Fr h₀ L h m → News h₀ L h ([(I, oI)] ++ (C, oC) :: (D, lst zs) :: nx) → (∀ p ∈ nx, p.1 ∉ [I] ∧ p.1 ≠ C ∧ p.1 ≠ D) →
      wpAny (model prog w) A (eval elt (compEnvC scope cl C env)) (ZEnd h₀ L m { s with heap := h, toks := tk } [(I, oI)] [I] C D oC (lst zs) (fun y nx' => J news (i + 1) (zs ++ [y]) nx')) E' { s with heap := h, toks := tk })
    (fin : ∀ D h tk zs nx, Fr h₀ L h m → News h₀ L h ((D, lst zs) :: nx) → (∀ p ∈ nx, p.1 ≠ D) → J news n zs nx → Q (.ref D) { s with heap := h, toks := tk }) :
    CompSrc prog w A h₀ L m env elt x scope cl (fun s₂ => FinE h₀ L m s₂ Q) (.ref r) s := by
  refine CompSrc.range hh F N hr hsm hn hsz fun g => ?_
  refine compRest_J (s := { s with heap := g }) (n := n) (fun i zs nx => J news i zs nx) (fun i zs nx h => True.intro) ?_ ?_ _ 0 [] news (Nat.zero_add _) h0
  · rintro i v I oI C oC D m₂ zs nx h tk E' hi ⟨t, rfl⟩ hJ hC hx F' N' off
    exact turn i t I oI C oC D m₂ zs nx h tk E' hi hJ hC hx F' N' off
  · intro zs nx hJ D h tk F' N' o1
    exact fin D h tk zs nx F' N' (off1_of o1) hJ
theorem above_off1 {D9 C D I : Addr} {oI oC oD : Obj} {nx : Led} {o : Obj} (h : AllLt D9 ([(I, oI)] ++ (C, oC) :: (D, oD) :: nx)) (ho : ∀ p ∈ nx, p.1 ∉ [I] ∧ p.1 ≠ C ∧ p.1 ≠ D) :
    ∀ p ∈ (D9, o) :: nx, p.1 ∉ [I] ∧ p.1 ≠ C ∧ p.1 ≠ D := by
  have hlt := ktn_ltOf h
  intro p hp
  rcases List.mem_cons.mp hp with rfl | hp
  · refine ⟨fun hm => ?_, ?_, ?_⟩
    · rw [List.mem_singleton] at hm
      exact Nat.ne_of_gt (hlt (I, oI) (List.mem_append_left _ List.mem_cons_self)) hm
    · exact Nat.ne_of_gt (hlt (C, oC) (List.mem_append_right _ List.mem_cons_self))
    · exact Nat.ne_of_gt (hlt (D, oD) (List.mem_append_right _ (List.mem_cons_of_mem _ List.mem_cons_self)))
  · exact ho p hp
end

section
open PySem.Spec PySem.Calls PyProof.Rows.LCg
variable {prog : Program} {w : World} {A : Around} {E : Value → Shared → Prop} {s : Shared} {h₀ : Heap} {env : Env} {target : PySem.Expr} {body : List Stmt} {Q : Flow → Shared → Prop}

/-- what a turn leaves behind: the loop's own objects as they were; the word at the next number -/
def TEnd (h₀ : Heap) (L : Addr) (s₁ : Shared) (its : Led) (ws : List Addr) (J : (Str → Option Value) → Led → Prop) (s₂ : Shared) : Prop :=
  ∃ h' tk m' nx, s₂ = { s₁ with heap := h', toks := tk } ∧ Fr h₀ L h' m' ∧ News h₀ L h' (its ++ nx) ∧ (∀ p ∈ nx, p.1 ∉ ws) ∧ J m' nx
def TPost (h₀ : Heap) (L : Addr) (s₁ : Shared) (its : Led) (ws : List Addr) (J : (Str → Option Value) → Led → Prop) (Q : Flow → Shared → Prop) (f : Flow) (s₂ : Shared) : Prop :=
  match f with
  | .ret v => Q (.ret v) s₂
  | .brk => Q .next s₂
  | _ => TEnd h₀ L s₁ its ws J s₂
theorem tend {L : Addr} {s₁ : Shared} {its : Led} {ws : List Addr} {J : (Str → Option Value) → Led → Prop} {h' : Heap} {tk : Nat} {m' : Str → Option Value} {all : Led} (nx : Led)
    (F : Fr h₀ L h' m') (N : News h₀ L h' all) (hs : ∀ p ∈ its ++ nx, p ∈ all) (ho : ∀ p ∈ nx, p.1 ∉ ws) (hJ : J m' nx) : TEnd h₀ L s₁ its ws J { s₁ with heap := h', toks := tk } :=
  ⟨h', tk, m', nx, rfl, F, fun p hp => N p (hs p hp), ho, hJ⟩
theorem allObj_of : ∀ {ws : List (Addr × String)} {k : Led → Prop}, (∀ its, PySem.W.Objs ws its → k its) → AllObj ws k
  | [], _, h => h [] trivial
  | w :: r, k, h => fun o ho => allObj_of fun its hi => h ((w.1, o) :: its) ⟨⟨rfl, ho⟩, hi⟩
theorem subL_of : ∀ {l all : Led}, (∀ p ∈ l, p ∈ all) → SubL l all
  | [], _, _ => trivial
  | p :: r, all, h => ⟨h p List.mem_cons_self, subL_of fun q hq => h q (List.mem_cons_of_mem _ hq)⟩

theorem itemsRest_J {ws : List (Addr × String)} {keep : Led} {xs : List Itm} (hE : PassesOwn (model prog w) A env E) (J : Nat → (Str → Option Value) → Led → Prop)
    (turn : ∀ i a v its m₁ nx (s₁ : Shared) (Q₁ : Flow → Shared → Prop) (E₁ : Value → Shared → Prop), PassesOwn (model prog w) A env E₁ → xs[i]? = some a → a.Is v s₁.heap → J i m₁ nx → PySem.W.Objs ws its → (∀ p ∈ keep, p ∈ nx) → (∀ p ∈ nx, p.1 ∉ ws.map (·.1)) → Fr h₀ env.locals s₁.heap m₁ → News h₀ env.locals s₁.heap (its ++ nx) →
      wpAny (model prog w) A (assign target env v) (fun _ s₂ => wpAny (model prog w) A (execs body env) (TPost h₀ env.locals s₁ its (ws.map (·.1)) (fun m' nx' => (∀ p ∈ keep, p ∈ nx') ∧ J (i + 1) m' nx') Q₁) E₁ s₂) E₁ s₁)
    (done : ∀ m₁ nx h tk, J xs.length m₁ nx → Fr h₀ env.locals h m₁ → News h₀ env.locals h nx → Q .next { s with heap := h, toks := tk }) :
    ∀ (k i : Nat) m nx, i + k = xs.length → J i m nx → (∀ p ∈ keep, p ∈ nx) → (∀ p ∈ nx, p.1 ∉ ws.map (·.1)) → ItemsRest prog w A E h₀ env target body Q s ws keep (xs.drop i) m nx
  | 0, i, m, nx, hi, hJ, _, _ => by
    rw [Nat.add_zero] at hi
    subst hi
    rw [List.drop_length]
    exact fun h tk F N => done m nx h tk hJ F N
  | k + 1, i, m, nx, hi, hJ, hk, ho => by
    have hlt : i < xs.length := by omega
    rw [List.drop_eq_getElem_cons hlt]
    intro v h tk hv F
    refine allObj_of fun its hits N => ?_
    refine wpAny_mono (turn i _ v its m nx { s with heap := h, toks := tk } Q E hE (List.getElem?_eq_getElem hlt) hv hJ hits hk ho F N) (fun _ s₂ h₂ => wpAny_mono h₂ (fun f s₃ h₃ => ?_) fun _ _ e => e) fun _ _ e => e
    have fin : TEnd h₀ env.locals { s with heap := h, toks := tk } its (ws.map (·.1)) (fun m' nx' => (∀ p ∈ keep, p ∈ nx') ∧ J (i + 1) m' nx') s₃ →
        UnrEndW h₀ env.locals { s with heap := h, toks := tk } its (fun m' n' => SubL keep n' ∧ ItemsRest prog w A E h₀ env target body Q s ws keep (xs.drop (i + 1)) m' n') s₃ := by
      rintro ⟨h', tk', m', nx', e, F', N', ho', hk', hJ'⟩
      refine ⟨h', tk', m', nx', e, F', N', fun p hp q hq e => ho' p hp ?_, subL_of hk', itemsRest_J hE J turn done k (i + 1) m' nx' (by omega) hJ' hk' ho'⟩
      rw [e, ← hits.map]
      exact List.mem_map.mpr ⟨q, hq, rfl⟩
    cases f with
    | ret v => exact h₃
    | brk => exact h₃
    | next => exact fin h₃
    | cont => exact fin h₃

theorem objs_one {I : Addr} {n : String} : ∀ {its : Led}, PySem.W.Objs [(I, n)] its → ∃ o, its = [(I, o)]
  | [], h => (show False from h).elim
  | [(a, o)], h => ⟨o, by rw [show a = I from h.1.1]⟩
  | _ :: _ :: _, h => (show False from h.2).elim

/-- a for over the zip of two lists of the ledger -/
theorem for_zip {elts : List PySem.Expr} {k : Nat} {pos : Pos} {l1 l2 : Addr} {xs ys : List Value} {n1 n2 : Nat} {m₀ : Str → Option Value} {news : Led}
    (J : (Str → Option Value) → Led → Nat → (Str → Option Value) → Led → Prop) (hE : PassesOwn (model prog w) A env E) (hh : A.handled = none) (F : Fr h₀ env.locals s.heap m₀) (N : News h₀ env.locals s.heap news) (hm1 : (l1, listOf xs.toArray n1) ∈ news) (hm2 : (l2, listOf ys.toArray n2) ∈ news)
    (h0 : J m₀ news 0 m₀ news)
    (turn : ∀ (I : Addr) i a b T its m₁ nx (s₁ : Shared) (Q₁ : Flow → Shared → Prop) (E₁ : Value → Shared → Prop), PassesOwn (model prog w) A env E₁ → (∀ p ∈ news, p.1 < I) → xs[i]? = some a → ys[i]? = some b → IsTup s₁.heap T #[a, b] → J m₀ news i m₁ nx → PySem.W.Objs (zipWs I) its → (∀ p ∈ [(l1, listOf xs.toArray n1), (l2, listOf ys.toArray n2)], p ∈ nx) → (∀ p ∈ nx, p.1 ∉ (zipWs I).map (·.1)) → Fr h₀ env.locals s₁.heap m₁ → News h₀ env.locals s₁.heap (its ++ nx) →
      wpAny (model prog w) A (assign (.Tuple elts k pos) env (.ref T)) (fun _ s₂ => wpAny (model prog w) A (execs body env) (TPost h₀ env.locals s₁ its ((zipWs I).map (·.1)) (fun m' nx' => (∀ p ∈ [(l1, listOf xs.toArray n1), (l2, listOf ys.toArray n2)], p ∈ nx') ∧ J m₀ news (i + 1) m' nx') Q₁) E₁ s₂) E₁ s₁)
    (done : ∀ m₁ nx h tk, J m₀ news (min xs.length ys.length) m₁ nx → Fr h₀ env.locals h m₁ → News h₀ env.locals h nx → Q .next { s with heap := h, toks := tk }) :
    wpAny (model prog w) A (call (.type "zip") [.ref l1, .ref l2]) (fun xv s₁ => wpAny (model prog w) A (pyIter xv) (fun it s₂ => TurnsAt prog w A h₀ env (.Tuple elts k pos) body Q E it s₂) E s₁) E s := by
  refine ktu_zip hh F N hm1 rfl rfl hm2 rfl rfl fun I hI => ?_
  have hoff : ∀ p ∈ news, p.1 ∉ (zipWs I).map (·.1) := fun p hp hm => by
    have h1 := hI p hp
    have hb' : p.1 = I + 4 ∨ p.1 = I + 2 ∨ p.1 = I + 3 ∨ p.1 = I ∨ p.1 = I + 1 := by simpa using hm
    rcases hb' with e | e | e | e | e
    · exact ktu_ne 4 h1 e
    · exact ktu_ne 2 h1 e
    · exact ktu_ne 3 h1 e
    · exact Nat.ne_of_lt h1 e
    · exact ktu_ne 1 h1 e
  have key := itemsRest_J (prog := prog) (w := w) (A := A) (E := E) (s := s) (h₀ := h₀) (env := env) (target := .Tuple elts k pos) (body := body) (Q := Q) (ws := zipWs I) (keep := [(l1, listOf xs.toArray n1), (l2, listOf ys.toArray n2)]) (xs := zipItems xs ys) hE (J m₀ news) ?_ ?_ (zipItems xs ys).length 0 m₀ news (Nat.zero_add _) h0 ?_ hoff
  · exact key
  · intro i a v its m₁ nx s₁ Q₁ E₁ hE₁ ha hv hJ hits hk ho F' N'
    have hlt := (List.getElem?_eq_some_iff.mp ha).1
    rw [zipItems_length] at hlt
    have h1 : i < xs.length := by omega
    have h2 : i < ys.length := by omega
    rw [zipItems_get xs ys i (List.getElem?_eq_getElem h1) (List.getElem?_eq_getElem h2)] at ha
    cases ha
    obtain ⟨T, t, rfl, hT⟩ := hv
    exact turn I i _ _ T its m₁ nx s₁ Q₁ E₁ hE₁ hI (List.getElem?_eq_getElem h1) (List.getElem?_eq_getElem h2) hT hJ hits hk ho F' N'
  · intro m₁ nx h tk hJ F' N'
    rw [zipItems_length] at hJ
    exact done m₁ nx h tk hJ F' N'
  · intro p hp
    simp only [List.mem_cons, List.not_mem_nil, or_false] at hp
    rcases hp with rfl | rfl
    · exact hm1
    · exact hm2
abbrev enumWs (I : Addr) : List (Addr × String) := [(I + 1, "enumerate"), (I, "list_iterator")]
/-- a for over enumerate of a list of the ledger -/
theorem for_enum {elts : List PySem.Expr} {k : Nat} {pos : Pos} {l : Addr} {xs : List Value} {n : Nat} {m₀ : Str → Option Value} {news : Led}
    (J : (Str → Option Value) → Led → Nat → (Str → Option Value) → Led → Prop) (hE : PassesOwn (model prog w) A env E) (hh : A.handled = none) (F : Fr h₀ env.locals s.heap m₀) (N : News h₀ env.locals s.heap news) (hm : (l, listOf xs.toArray n) ∈ news)
    (h0 : J m₀ news 0 m₀ news)
    (turn : ∀ (I : Addr) (i : Nat) a t T its m₁ nx (s₁ : Shared) (Q₁ : Flow → Shared → Prop) (E₁ : Value → Shared → Prop), PassesOwn (model prog w) A env E₁ → (∀ p ∈ news, p.1 < I) → xs[i]? = some a → IsTup s₁.heap T #[.int (i : Int) t, a] → J m₀ news i m₁ nx → PySem.W.Objs (enumWs I) its → (l, listOf xs.toArray n) ∈ nx → (∀ p ∈ nx, p.1 ∉ (enumWs I).map (·.1)) → Fr h₀ env.locals s₁.heap m₁ → News h₀ env.locals s₁.heap (its ++ nx) →
      wpAny (model prog w) A (assign (.Tuple elts k pos) env (.ref T)) (fun _ s₂ => wpAny (model prog w) A (execs body env) (TPost h₀ env.locals s₁ its ((enumWs I).map (·.1)) (fun m' nx' => (l, listOf xs.toArray n) ∈ nx' ∧ J m₀ news (i + 1) m' nx') Q₁) E₁ s₂) E₁ s₁)
    (done : ∀ m₁ nx h tk, J m₀ news xs.length m₁ nx → Fr h₀ env.locals h m₁ → News h₀ env.locals h nx → Q .next { s with heap := h, toks := tk }) :
    wpAny (model prog w) A (call (.type "enumerate") [.ref l]) (fun xv s₁ => wpAny (model prog w) A (pyIter xv) (fun it s₂ => TurnsAt prog w A h₀ env (.Tuple elts k pos) body Q E it s₂) E s₁) E s := by
  refine ktu_enum hh F N hm rfl rfl rfl fun I hI => ?_
  have hoff : ∀ p ∈ news, p.1 ∉ (enumWs I).map (·.1) := fun p hp hm => by
    have h1 := hI p hp
    have hb' : p.1 = I + 1 ∨ p.1 = I := by simpa using hm
    rcases hb' with e | e
    · exact ktu_ne 1 h1 e
    · exact Nat.ne_of_lt h1 e
  have key := itemsRest_J (prog := prog) (w := w) (A := A) (E := E) (s := s) (h₀ := h₀) (env := env) (target := .Tuple elts k pos) (body := body) (Q := Q) (ws := enumWs I) (keep := [(l, listOf xs.toArray n)]) (xs := enumItems 0 xs) hE (fun i m nx => J m₀ news i m nx) ?_ ?_ (enumItems 0 xs).length 0 m₀ news (Nat.zero_add _) h0 ?_ hoff
  · exact key
  · intro i a v its m₁ nx s₁ Q₁ E₁ hE₁ ha hv hJ hits hk ho F' N'
    have hlt := (List.getElem?_eq_some_iff.mp ha).1
    rw [enumItems_length] at hlt
    rw [enumItems_get xs 0 i (List.getElem?_eq_getElem hlt)] at ha
    cases ha
    obtain ⟨T, t, rfl, hT⟩ := hv
    refine wpAny_mono (turn I i _ t T its m₁ nx s₁ Q₁ E₁ hE₁ hI (List.getElem?_eq_getElem hlt) (by rw [Nat.zero_add] at hT; exact hT) hJ hits (hk _ List.mem_cons_self) ho F' N') (fun _ s₂ h₂ => wpAny_mono h₂ (fun f s₃ h₃ => ?_) fun _ _ e => e) fun _ _ e => e
    have fin : TEnd h₀ env.locals s₁ its ((enumWs I).map (·.1)) (fun m' nx' => (l, listOf xs.toArray n) ∈ nx' ∧ J m₀ news (i + 1) m' nx') s₃ → TEnd h₀ env.locals s₁ its ((enumWs I).map (·.1)) (fun m' nx' => (∀ p ∈ [(l, listOf xs.toArray n)], p ∈ nx') ∧ J m₀ news (i + 1) m' nx') s₃ := by
      rintro ⟨h', tk', m', nx', e, F', N', ho', hk', hJ'⟩
      exact ⟨h', tk', m', nx', e, F', N', ho', fun p hp => by rw [List.mem_singleton.mp hp]; exact hk', hJ'⟩
    cases f with
    | ret v => exact h₃
    | brk => exact h₃
    | next => exact fin h₃
    | cont => exact fin h₃
  · intro m₁ nx h tk hJ F' N'
    rw [enumItems_length] at hJ
    exact done m₁ nx h tk hJ F' N'
  · intro p hp
    rw [List.mem_singleton.mp hp]
    exact hm
/-- a for over a list of the ledger -/
theorem for_list {l : Addr} {xs : List Value} {n : Nat} {m₀ : Str → Option Value} {news : Led}
    (J : (Str → Option Value) → Led → Nat → (Str → Option Value) → Led → Prop) (hE : PassesOwn (model prog w) A env E) (hh : A.handled = none) (F : Fr h₀ env.locals s.heap m₀) (N : News h₀ env.locals s.heap news) (hm : (l, listOf xs.toArray n) ∈ news)
    (h0 : J m₀ news 0 m₀ news)
    (turn : ∀ (I : Addr) oI i a m₁ nx (s₁ : Shared) (Q₁ : Flow → Shared → Prop) (E₁ : Value → Shared → Prop), PassesOwn (model prog w) A env E₁ → (∀ p ∈ news, p.1 < I) → xs[i]? = some a → J m₀ news i m₁ nx → (l, listOf xs.toArray n) ∈ nx → (∀ p ∈ nx, p.1 ∉ [I]) → Fr h₀ env.locals s₁.heap m₁ → News h₀ env.locals s₁.heap ([(I, oI)] ++ nx) →
      wpAny (model prog w) A (assign target env a) (fun _ s₂ => wpAny (model prog w) A (execs body env) (TPost h₀ env.locals s₁ [(I, oI)] [I] (fun m' nx' => (∀ p ∈ [(l, listOf xs.toArray n)], p ∈ nx') ∧ J m₀ news (i + 1) m' nx') Q₁) E₁ s₂) E₁ s₁)
    (done : ∀ m₁ nx h tk, J m₀ news xs.length m₁ nx → Fr h₀ env.locals h m₁ → News h₀ env.locals h nx → Q .next { s with heap := h, toks := tk }) :
    wpAny (model prog w) A (pyIter (.ref l)) (fun it s₂ => TurnsAt prog w A h₀ env target body Q E it s₂) E s := by
  refine iter_listTurns hh F N hm rfl rfl fun I hI => ?_
  have hoff : ∀ p ∈ news, p.1 ∉ [(I, "list_iterator")].map (·.1) := fun p hp hm => by
    have hb' : p.1 = I := by simpa using hm
    exact Nat.ne_of_lt (hI p hp) hb'
  have key := itemsRest_J (prog := prog) (w := w) (A := A) (E := E) (s := s) (h₀ := h₀) (env := env) (target := target) (body := body) (Q := Q) (ws := [(I, "list_iterator")]) (keep := [(l, listOf xs.toArray n)]) (xs := xs.map .val) hE (fun i m nx => J m₀ news i m nx) ?_ ?_ (xs.map Itm.val).length 0 m₀ news (Nat.zero_add _) h0 ?_ hoff
  · exact key
  · intro i a v its m₁ nx s₁ Q₁ E₁ hE₁ ha hv hJ hits hk ho F' N'
    rw [List.getElem?_map] at ha
    obtain ⟨a', ha', rfl⟩ := Option.map_eq_some_iff.mp ha
    have hv' : v = a' := hv
    subst hv'
    obtain ⟨oI, rfl⟩ := objs_one hits
    exact turn I oI i v m₁ nx s₁ Q₁ E₁ hE₁ hI ha' hJ (hk _ List.mem_cons_self) ho F' N'
  · intro m₁ nx h tk hJ F' N'
    rw [List.length_map] at hJ
    exact done m₁ nx h tk hJ F' N'
  · intro p hp
    rw [List.mem_singleton.mp hp]
    exact hm
/-- a for over a range by ones; its target is a name -/
theorem for_range {x : Str} {px : Pos} {r : Addr} {a b : Int} {t u v : Tok} {n : Nat} {m₀ : Str → Option Value} {news : Led}
    (J : (Str → Option Value) → Led → Nat → (Str → Option Value) → Led → Prop) (hE : PassesOwn (model prog w) A env E) (hh : A.handled = none) (hr : IsRange s.heap r a b 1 t u v) (hsm : Builtin.Range.small a b 1 = true) (hn : Builtin.Range.rangeSize a b 1 = ((n : Nat) : Int)) (F : Fr h₀ env.locals s.heap m₀) (N : News h₀ env.locals s.heap news)
    (h0 : J m₀ news 0 m₀ news)
    (turn : ∀ (I : Addr) oI i t m₁ nx (s₁ : Shared) (Q₁ : Flow → Shared → Prop) (E₁ : Value → Shared → Prop), PassesOwn (model prog w) A env E₁ → (∀ p ∈ news, p.1 < I) → i < n → J m₀ news i m₁ nx → (∀ p ∈ nx, p.1 ∉ [I]) → Fr h₀ env.locals s₁.heap m₁ → News h₀ env.locals s₁.heap ([(I, oI)] ++ nx) →
      wpAny (model prog w) A (assign (.Name x px) env (.int (a + (i : Int)) t)) (fun _ s₂ => wpAny (model prog w) A (execs body env) (TPost h₀ env.locals s₁ [(I, oI)] [I] (fun m' nx' => (∀ p ∈ ([] : Led), p ∈ nx') ∧ J m₀ news (i + 1) m' nx') Q₁) E₁ s₂) E₁ s₁)
    (done : ∀ m₁ nx h tk, J m₀ news n m₁ nx → Fr h₀ env.locals h m₁ → News h₀ env.locals h nx → Q .next { s with heap := h, toks := tk }) :
    wpAny (model prog w) A (pyIter (.ref r)) (fun it s₂ => TurnsAt prog w A h₀ env (.Name x px) body Q E it s₂) E s := by
  refine wpAny_pyIter_range hr hsm ?_
  have hI : ∀ p ∈ news, p.1 < s.heap.objs.size := fun p hp => Heap.lt_size (N p hp).1
  have hoff : ∀ p ∈ news, p.1 ∉ [(s.heap.objs.size, "range_iterator")].map (·.1) := fun p hp hm => by
    have hb' : p.1 = s.heap.objs.size := by simpa using hm
    exact Nat.ne_of_lt (hI p hp) hb'
  have key := itemsRest_J (prog := prog) (w := w) (A := A) (E := E) (s := s) (h₀ := h₀) (env := env) (target := .Name x px) (body := body) (Q := Q) (ws := [(s.heap.objs.size, "range_iterator")]) (keep := []) (xs := (List.range n).map fun (i : Nat) => Itm.tok (fun t => .int (a + (i : Int)) t)) hE (fun i m nx => J m₀ news i m nx) ?_ ?_ n 0 m₀ news (by simp) h0 (fun _ h => nomatch h) hoff
  refine ktu_core (tk0 := s.toks) (news := news) (ws := [(s.heap.objs.size, "range_iterator")]) (keep := []) (xs := (List.range n).map fun (i : Nat) => Itm.tok (fun t => .int (a + (i : Int)) t)) (KTurns.ofWalks (range_walks hh a n).bound fun i v s Q E st q => wpAny_pure q) (by simp) ?_ ?_ ?_ ?_ ?_ ?_ ?_ (by show IsRangeIter _ _ _ _ _; rw [hn]; simpa using Heap.get?_push_size _ rfl) (F.push _) (fun p hp => ⟨Heap.get?_push_of_some _ (N p hp).1, (N p hp).2⟩) trivial key
  · rintro i v h ⟨hi, t', rfl⟩
    refine ⟨.tok (fun t => .int (a + (i : Int)) t), ?_, t', rfl⟩
    rw [List.getElem?_map, List.getElem?_range hi]
    rfl
  · intro i h st
    have st' : h.get? s.heap.objs.size = some _ := st
    exact ⟨[(s.heap.objs.size, _)], ⟨⟨rfl, rfl⟩, trivial⟩, fun p hp => by rw [List.mem_singleton.mp hp]; exact st'⟩
  · intro b hb
    have hb' : b = s.heap.objs.size := by simpa using hb
    rw [hb']
    exact ⟨List.mem_cons_self, next_is_new F⟩
  · intro b hb
    simpa using hb
  · intro b hb
    exact .inl (by simpa using hb)
  · intro hm
    exact absurd F.ns.lt ((List.mem_singleton.mp hm) ▸ Nat.lt_irrefl _)
  · intro p hp hm
    exact absurd (hI p hp) ((List.mem_singleton.mp hm) ▸ Nat.lt_irrefl _)
  · intro i a' v its m₁ nx s₁ Q₁ E₁ hE₁ ha hv hJ hits hk ho F' N'
    rw [List.getElem?_map] at ha
    obtain ⟨j, hj, rfl⟩ := Option.map_eq_some_iff.mp ha
    obtain ⟨hlt, hj'⟩ := List.getElem?_eq_some_iff.mp hj
    rw [List.length_range] at hlt
    rw [List.getElem_range] at hj'
    subst hj'
    obtain ⟨t', rfl⟩ := hv
    obtain ⟨oI, rfl⟩ := objs_one hits
    exact turn _ oI i t' m₁ nx s₁ Q₁ E₁ hE₁ hI hlt hJ ho F' N'
  · intro m₁ nx h tk hJ F' N'
    rw [List.length_map, List.length_range] at hJ
    exact done m₁ nx h tk hJ F' N'

/-- an item of a list of the ledger is stored; of the rest of the ledger what is named stays -/
theorem set_at {L R : Addr} {m : Str → Option Value} {news : Led} {vs : List Value} {c : Nat} {k : Int} {u : Tok} {v : Value} {Q : Unit → Shared → Prop} (rest : Led)
    (F : Fr h₀ L s.heap m) (N : News h₀ L s.heap news) (hm : (R, listOf vs.toArray c) ∈ news) (hrest : ∀ p ∈ rest, p ∈ news) (hoff : ∀ p ∈ rest, p.1 ≠ R) (h0 : 0 ≤ k) (hk : k < vs.length) (hfit : k < 2 ^ 63)
    (h : ∀ h', Fr h₀ L h' m → News h₀ L h' ((R, listOf (vs.set k.toNat v).toArray c) :: rest) → Q () { s with heap := h' }) :
    wpAny (model prog w) A (setItem (.ref R) (.int k u) v) Q E s := by
  have z := N _ hm
  have N₂ : News h₀ L s.heap ((R, listOf vs.toArray c) :: rest) := fun p hp => by
    rcases List.mem_cons.mp hp with rfl | hp
    · exact z
    · exact N p (hrest p hp)
  refine ki_setAt z.1 h0 hfit (by simpa using hk) (h _ (F.change (Heap.SameBut.update ..) z.2.1 z.2.2) (ki_turn (pre := []) _ N₂ (fun _ h => nomatch h) hoff ?_ ?_))
  · apply Array.toList_inj.mp
    simp
  · simp
end

/-- the names ps hold what is written; of other names nothing is said -/
def mapC : List (Str × Value) → (Str → Option Value) → Str → Option Value
  | [], u => u
  | p :: r, u => fun y => if y = p.1 then some p.2 else mapC r u y
def Holds (ps : List (Str × Value)) (m : Str → Option Value) : Prop := ∀ p ∈ ps, m p.1 = some p.2
theorem mapC_eq {m : Str → Option Value} : ∀ {ps : List (Str × Value)}, Holds ps m → mapC ps m = m
  | [], _ => rfl
  | p :: r, h => by
    funext y
    unfold mapC
    rw [mapC_eq fun q hq => h q (List.mem_cons_of_mem _ hq)]
    split
    · rename_i e
      rw [e]
      exact (h p List.mem_cons_self).symm
    · rfl
theorem holds_fr {ps : List (Str × Value)} {m : Str → Option Value} {h₀ h : Heap} {L : Addr} (x : Holds ps m) (F : Fr h₀ L h m) : ∃ u : Str → Option Value, Fr h₀ L h (mapC ps u) := ⟨m, by rw [mapC_eq x]; exact F⟩
theorem holds_nil {m : Str → Option Value} : Holds [] m := fun _ h => nomatch h
theorem holds_cons {x : Str} {v : Value} {ps : List (Str × Value)} {m : Str → Option Value} (h : m x = some v) (r : Holds ps m) : Holds ((x, v) :: ps) m := fun p hp => by
  rcases List.mem_cons.mp hp with rfl | hp
  · exact h
  · exact r p hp

local macro_rules | `(tactic| walk_at "holds") => `(tactic| (repeat (first | exact holds_nil | refine holds_cons rfl ?_)))
/-- a goal that the walk leaves as it is -/
structure Stop (P : Prop) : Prop where
  out : P

abbrev Row := List (Int × Int)
abbrev Grid := List Row
def normO (p : Int × Int) : Row → Option Row
  | [] => some []
  | c :: cs => match byO c p with
    | none => none
    | some z => (normO p cs).map (z :: ·)
theorem normO_len {p : Int × Int} : ∀ {cs rs : Row}, normO p cs = some rs → rs.length = cs.length
  | [], _, h => by simp only [normO, Option.some.injEq] at h; subst h; rfl
  | c :: cs, rs, h => by
    simp only [normO] at h
    split at h
    · cases h
    · obtain ⟨r, hr, rfl⟩ := Option.map_eq_some_iff.mp h
      simp [normO_len hr]
theorem normO_get {p : Int × Int} : ∀ {cs rs : Row} {i : Nat} {c : Int × Int}, normO p cs = some rs → cs[i]? = some c → ∃ z, byO c p = some z ∧ rs[i]? = some z
  | [], _, _, _, _, hc => by simp at hc
  | c' :: cs, rs, i, c, h, hc => by
    simp only [normO] at h
    split at h
    · cases h
    · rename_i z hz
      obtain ⟨r, hr, rfl⟩ := Option.map_eq_some_iff.mp h
      cases i with
      | zero =>
        simp only [List.getElem?_cons_zero, Option.some.injEq] at hc
        subst hc
        exact ⟨z, hz, rfl⟩
      | succ i =>
        simp only [List.getElem?_cons_succ] at hc ⊢
        exact normO_get hr hc
/-- one turn of the inner loop -/
def stepO (a i : Nat) (g : Grid) : Option Grid :=
  if i = a then some g else
  match g[i]?, g[a]? with
  | some r, some b => (match r[a]? with
    | some x => if x.1 = 0 then some g else if r.length < 1048576 then (clearedO x r b).map (g.set i ·) else none
    | none => none)
  | _, _ => none
def innerO (a : Nat) (g : Grid) : Nat → Option Grid
  | 0 => some g
  | k + 1 => (innerO a g k).bind (stepO a k)
/-- one turn of the outer loop, and what it meets -/
def turnO (a : Nat) (st : Grid × (Int × Int)) : Option (Grid × (Int × Int)) :=
  match st.1[a]? with
  | none => none
  | some r => match r[a]? with
    | none => none
    | some p => if p.1 = 0 then none else if r.length < 1048576 then (match timesO st.2 p, normO p r with
      | some told, some r' => (innerO a (st.1.set a r') st.1.length).map (·, told)
      | _, _ => none) else none
def outerO (g : Grid) : Nat → Option (Grid × (Int × Int))
  | 0 => some (g, (1, 1))
  | k + 1 => (outerO g k).bind (turnO k)
def solveO (g : Grid) : Option (Grid × (Int × Int)) := outerO g g.length

theorem stepO_len {a i : Nat} {g g' : Grid} (h : stepO a i g = some g') : g'.length = g.length := by
  unfold stepO at h
  split at h
  · cases h; rfl
  · split at h
    · split at h
      · split at h
        · cases h; rfl
        · split at h
          · obtain ⟨r, _, rfl⟩ := Option.map_eq_some_iff.mp h
            simp
          · cases h
      · cases h
    · cases h
theorem innerO_len {a : Nat} {g : Grid} : ∀ {k : Nat} {g' : Grid}, innerO a g k = some g' → g'.length = g.length
  | 0, _, h => by cases h; rfl
  | k + 1, g', h => by
    obtain ⟨g1, h1, h2⟩ := Option.bind_eq_some_iff.mp h
    rw [stepO_len h2, innerO_len h1]
theorem turnO_some {a : Nat} {st st' : Grid × (Int × Int)} (h : turnO a st = some st') : ∃ r p told r', st.1[a]? = some r ∧ r[a]? = some p ∧ p.1 ≠ 0 ∧ timesO st.2 p = some told ∧ normO p r = some r' ∧ innerO a (st.1.set a r') st.1.length = some st'.1 ∧ st'.2 = told ∧ r.length < 2 ^ 20 := by
  unfold turnO at h
  split at h
  · cases h
  · rename_i r hr
    split at h
    · cases h
    · rename_i p hp
      split at h
      · cases h
      · rename_i hne
        split at h
        · rename_i hlen
          split at h
          · rename_i told r' ht hn
            obtain ⟨g', hg, rfl⟩ := Option.map_eq_some_iff.mp h
            exact ⟨r, p, told, r', hr, hp, hne, ht, hn, hg, rfl, hlen⟩
          · cases h
        · cases h
theorem outerO_len {g : Grid} : ∀ {k : Nat} {st : Grid × (Int × Int)}, outerO g k = some st → st.1.length = g.length
  | 0, _, h => by cases h; rfl
  | k + 1, st, h => by
    obtain ⟨st1, h1, h2⟩ := Option.bind_eq_some_iff.mp h
    obtain ⟨r, p, told, r', _, _, _, _, _, h3, _⟩ := turnO_some h2
    rw [innerO_len h3, List.length_set, outerO_len h1]
theorem outerO_step {g : Grid} {n : Nat} {st : Grid × (Int × Int)} (h : outerO g n = some st) : ∀ i, i < n → ∃ s1 s2, outerO g i = some s1 ∧ turnO i s1 = some s2 ∧ outerO g (i + 1) = some s2 := by
  induction n generalizing st with
  | zero => intro i hi; omega
  | succ n ih =>
    intro i hi
    obtain ⟨st1, h1, h2⟩ := Option.bind_eq_some_iff.mp h
    by_cases e : i = n
    · subst e
      exact ⟨st1, st, h1, h2, h⟩
    · exact ih h1 i (by omega)
theorem innerO_step {a : Nat} {g : Grid} {n : Nat} {g' : Grid} (h : innerO a g n = some g') : ∀ i, i < n → ∃ g1 g2, innerO a g i = some g1 ∧ stepO a i g1 = some g2 ∧ innerO a g (i + 1) = some g2 := by
  induction n generalizing g' with
  | zero => intro i hi; omega
  | succ n ih =>
    intro i hi
    obtain ⟨g1, h1, h2⟩ := Option.bind_eq_some_iff.mp h
    by_cases e : i = n
    · subst e
      exact ⟨g1, g', h1, h2, h⟩
    · exact ih h1 i (by omega)
theorem stepO_ne {a i : Nat} {g g' : Grid} (h : stepO a i g = some g') (hne : i ≠ a) : ∃ r b x, g[i]? = some r ∧ g[a]? = some b ∧ r[a]? = some x ∧ (x.1 = 0 → g' = g) ∧ (x.1 ≠ 0 → r.length < 2 ^ 20 ∧ ∃ r', clearedO x r b = some r' ∧ g' = g.set i r') := by
  unfold stepO at h
  rw [if_neg hne] at h
  split at h
  · rename_i r b hr hb
    split at h
    · rename_i x hx
      refine ⟨r, b, x, hr, hb, hx, fun e => ?_, fun e => ?_⟩
      · rw [if_pos e] at h; cases h; rfl
      · rw [if_neg e] at h
        split at h
        · rename_i hlen
          obtain ⟨r', hr', rfl⟩ := Option.map_eq_some_iff.mp h
          exact ⟨hlen, r', hr', rfl⟩
        · cases h
    · cases h
  · cases h
theorem stepO_eq {a : Nat} {g g' : Grid} (h : stepO a a g = some g') : g' = g := by
  unfold stepO at h
  rw [if_pos rfl] at h
  cases h; rfl

def Apart (new news : Led) : Prop := ∀ p ∈ new, ∀ q ∈ news, p.1 ≠ q.1
abbrev SolvePost (res : Grid × (Int × Int)) (ro news : Led) : Value → Led → Prop := fun v news' => ∃ T cT R vs c D tl, v = .ref T ∧ news' = (T, ({ cls := .type "tuple", data := .seq #[.ref R, .ref D] cT } : Obj)) :: (R, listOf vs.toArray c) :: (news ++ tl) ∧ PairIn tl (.ref D) res.2 ∧ All2 (RowIn (tl ++ ro)) vs res.1 ∧
  Apart ((T, ({ cls := .type "tuple", data := .seq #[.ref R, .ref D] cT } : Obj)) :: (R, listOf vs.toArray c) :: tl) news

theorem range_small {n : Nat} (h : n < 2 ^ 20) : Builtin.Range.small 0 (n : Int) 1 = true := small_one (by omega) (by omega) (by omega) (by omega)
theorem range_size {n : Nat} : Builtin.Range.rangeSize 0 (n : Int) 1 = (n : Int) := by
  rw [rangeSize_nat]
  omega
theorem solve_perm {g h : Heap} {L : Addr} {a b c d : Addr × Obj} {news : Led} (N : News g L h (a :: b :: c :: d :: news)) : News g L h (a :: d :: (news ++ [c])) := fun p hp => by
  refine N p ?_
  simp only [List.mem_cons, List.mem_append, List.not_mem_nil, or_false] at hp ⊢
  rcases hp with h | h | h | h <;> simp [h]

set_option maxHeartbeats 1000000 in
theorem solved_ok {w : World} {R₀ : Addr} {vs₀ : List Value} {c₀ : Nat} {g₀ : Grid} {res : Grid × (Int × Int)} {ro news : Led} (hR₀ : (R₀, listOf vs₀.toArray c₀) ∈ news) (hro : ∀ p ∈ ro, p ∈ news) (hg₀ : All2 (RowIn ro) vs₀ g₀)
    (hlen : g₀.length < 2 ^ 20) (hrow : ∀ r ∈ g₀, r.length < 2 ^ 20) (hO : solveO g₀ = some res) : CallOK w 108 6 [.ref R₀] news (SolvePost res ro news) := by
  have hvl : vs₀.length = g₀.length := hg₀.length
  have hsz : vs₀.length ≤ sizeLine := by rw [hvl, sizeLine_eq]; omega
  unfold CallOK
  k_fill
  k_with_none
  intro p loose mean mg mb dp un gd cn cs a ccd cl outer A₀ base h₀ L m s Q E B F X N T hk hd hu hret
  refine wpAny_call ?_
  k_dflt (refine' code_defC ?k1 ?k2 ?k3 ?k4 ?k5 ?kA ?kF ?kK ?k6 ?k7 ?k8 ?k9 ?kB ?kD ?_ ?c2 ?c3 ?c4; (case kA => exact rfl); (case kF => exact rfl); (case kK => assumption); (case k1 => k_asm); (case k2 => k_asm); (case k3 => k_asm); (case k4 => k_asm); (case k5 => k_asm); (case k6 => k_is); (case k7 => k_is); (case k8 => ktr_room); (case k9 => exact BindsTo.of_eq rfl); (case kB => exact rfl); (case kD => decide +kernel); (case c2 => exact rfl); (case c3 => exact rfl); (case c4 => exact rfl); k_whole)
  intro g' L' h' tk' cells' FG' F' N' Y' B' X' T' l1
  (try k_lt l1)
  k_cells Y'
  (try simp only [List.cons_append, List.nil_append] at N')
  (try dsimp only)
  (try k_fold)
  have lN := l1
  k_with "len" => (refine len_at (by assumption) (by k_mem) (by assumption) (by assumption) ?_)
  k_with "call type:list" => (refine list_copyK (by k_asm) (by k_asm) (newsList (by k_asm) (by k_mem)) ?_ (by simpa using hsz); intro D' c' h' F' N' l1; k_lt l1; (try k_sweep))
  k_with "for" => walk_at "go for"
  k_steps
  rename_i hh9 tt9 t₁ u₁ v₁ hRg hF9 hN9 hK9
  have hN2 := solve_perm hN9
  clear hN9
  refine for_range (n := g₀.length) (J := fun m₀ base i m nx => ∃ vs c g told D oc v₀ tl, outerO g₀ i = some (g, told) ∧ nx = (D', listOf vs.toArray c) :: (L' + 1, oc) :: (news ++ tl) ∧ PairIn tl (.ref D) told ∧ All2 (RowIn (tl ++ ro)) vs g ∧ oc.data = .cell v₀ ∧ (∃ ts, Holds [(Str.ofString "rows", .ref D'), (Str.ofString "told", .ref D), (Str.ofString "size", .int (g₀.length : Nat) ts)] m) ∧ (∀ p ∈ tl, p.1 ≠ D' ∧ p.1 ≠ L' + 1) ∧ Apart tl news) (by first | assumption | passes_own) (by rfl) hRg (range_small hlen) range_size hF9 hN2 ?h0 ?turn ?done
  case h0 =>
    refine ⟨vs₀, c', g₀, (1, 1), _, _, _, _, rfl, rfl, ⟨_, _, _, _, rfl, List.mem_cons_self⟩, hg₀.mono fun _ _ => RowIn.mono fun p hp => List.mem_append_right _ hp, by assumption, ⟨_, by walk_at "holds"⟩, fun p hp => ?_, fun p hp q hq => ?_⟩
    · rw [List.mem_singleton.mp hp]
      exact ⟨neN (by dsimp only; omega), neN (by dsimp only; omega)⟩
    · rw [List.mem_singleton.mp hp]
      exact Nat.ne_of_gt (ktn_ltOf (And.right (by assumption)) q hq)
  case turn =>
    clear hret hF9 hN2 hRg hK9 FG' F N B X T
    intro I oI i t m₁ nx s₁ Q₁ E₁ hE₁ hI hi hJ hoff F1 N1
    refine turn_gen fun Qt hQt => ?_
    clear hI
    obtain ⟨vs, c, g, told, D, oc, v₀, tl, hg, rfl, ⟨aT, tT, uT, cT, eT, hT⟩, hall, hoc, ⟨ts, hm⟩, hap1, hap2⟩ := hJ
    obtain ⟨s1, s2, hs1, hs2, hs3⟩ := outerO_step hO i hi
    rw [hg] at hs1
    obtain rfl := Option.some.inj hs1
    obtain ⟨r, p9, told', r', hr, hp, hne, ht, hn, hin, hst, hrl⟩ := turnO_some hs2
    dsimp only at hr hn hin ht
    cases eT
    obtain ⟨u9, F2⟩ := holds_fr hm F1
    clear F1
    dsimp only [mapC] at F2
    have hgl : g.length < 2 ^ 20 := by rw [outerO_len hg]; exact hlen
    have hr9 : g[(i : Int).toNat]? = some r := hr
    have hp9 : r[(i : Int).toNat]? = some p9 := hp
    have hsub : ∀ p ∈ tl ++ ro, p ∈ news ++ tl := fun p hp => by
      rcases List.mem_append.mp hp with h | h
      · exact List.mem_append_right _ h
      · exact List.mem_append_left _ (hro _ h)
    simp only [Int.zero_add, List.cons_append, List.nil_append] at N1 ⊢
    (try dsimp only)
    (try k_unmd)
    (try k_fold)
    have hIR : D' ≠ I := by simpa using hoff _ List.mem_cons_self
    have hIC : L' + 1 ≠ I := by simpa using hoff _ (List.mem_cons_of_mem _ List.mem_cons_self)
    have hRC : L' + 1 < D' := l1.2.2.1
    have hnewsC : ∀ p ∈ news, p.1 ≠ L' + 1 := fun p hp => Nat.ne_of_lt (Nat.lt_succ_of_lt (lN p hp))
    have hnewsR : ∀ p ∈ news, p.1 ≠ D' := fun p hp => Nat.ne_of_lt (ktn_ltOf l1.2.2.2 p hp)
    have hoffC : ∀ vs c, ∀ p ∈ (I, oI) :: (D', listOf vs c) :: (news ++ tl), p.1 ≠ L' + 1 := by
      intro vs c p hp
      simp only [List.mem_cons, List.mem_append] at hp
      rcases hp with rfl | rfl | h | h
      · exact Ne.symm hIC
      · exact Nat.ne_of_gt hRC
      · exact hnewsC p h
      · exact (hap1 p h).2
    k_with_none
    k_with "ite" => (refine ite_neg (by simp) ?_)
    k_with "store" => (refine storeX_C (by assumption) (cb_drop (news := (L' + 1, oc) :: (I, oI) :: (D', listOf vs.toArray c) :: (news ++ tl)) (by assumption) ?_) rfl (UpdF.head (hoffC _ _)) hoc ?_ rfl rfl; (intro p9 h9; simp only [List.mem_cons] at h9 ⊢; rcases h9 with h | h | h | h <;> simp only [h, true_or, or_true]); intro h' o' F' N' d'; (try dsimp only at N'); (try k_sweep))
    k_with "use" => first
      | ((with_reducible show wpAny _ _ (call (Value.ref 98) _) _ _ _); refine' useInt (by k_asm) (by k_asm) (pivot_ok (by k_mem) (by intro p9 h9; have h9' := hsub p9 h9; walk_at "mem") hall hgl hr hp hne) ?k1 ?k3 ?k5 ?kK ?kd ?ku ?_; walk_at "useInt")
      | ((with_reducible show wpAny _ _ (call (Value.ref 77) _) _ _ _); refine' usePair (by k_asm) (by k_asm) (times_ok (by k_mem) (by k_mem) ht) ?k1 ?k3 ?k5 ?kK ?kd ?ku ?_; walk_at "use"; intro Dt tt ut ct h8 tk8 Ft Nt lt; walk_at "used")
    k_with "sub" => first
      | (refine sub_row (by assumption) (by k_mem) hall (by omega) (by omega) (by assumption) ?_; intro a' vs' c' hm' ha'; have hm8 := hsub _ hm'; have hv8 : vs'.length ≤ sizeLine := by rw [ha'.length, sizeLine_eq]; omega)
      | (refine sub_pair (by assumption) (by k_mem) (by assumption) (by omega) (by omega) (by assumption) ?_; intro a' t' u' c' hm'; have hm8 := hsub _ hm')
    k_with "comp" => walk_at "go comp"
    k_with "comp src" => (
      k_dflt (refine comp_list (J := fun base i zs nx => ∃ tl', nx = tl' ++ base ∧ All2 (PairIn tl') zs (r'.take i) ∧ (∀ p ∈ tl', ∀ q ∈ base, q.1 < p.1)) (by rfl) (by assumption) (by assumption) (by k_mem) (by assumption) ⟨[], rfl, .nil, fun _ h => nomatch h⟩ ?zt ?zf)
      (case' zt =>
        intro j v5 I5 oI5 C5 oC5 D5 m5 zs5 nx5 h5 tk5 E5 hv5 hJ5 hl5 hoC5 hx5 F5 N5 off5
        refine post_gen fun Qz hQz => ?_
        obtain ⟨tl5, rfl, hz5, ho5⟩ := hJ5
        obtain ⟨x5, hx6, a5, t5, u5, c5, rfl, hm5⟩ := ha'.get' hv5
        obtain ⟨z5, hz6, hz7⟩ := normO_get hn hx6
        have hm6 := hsub _ hm5)
      (case' zf =>
        intro D5 h5 tk5 zs5 nx5 F5 N5 o5 hJ5
        obtain ⟨tl5, rfl, hz5, ho5⟩ := hJ5
        have hz6 : All2 (PairIn tl5) zs5 r' := by
          rw [List.take_of_length_le (by rw [normO_len hn, ha'.length]; exact Nat.le_refl _)] at hz5
          exact hz5
        have hX : ∀ p ∈ (D5, LCg.lst zs5) :: (Dt, pairO told' tt ut ct) :: (tl5 ++ tl), ∀ q ∈ (L' + 1, o') :: (I, oI) :: (D', listOf vs.toArray c) :: news, p.1 ≠ q.1 := by
          intro p hp q hq
          have hq' : q ∈ (L' + 1, o') :: (I, oI) :: (D', listOf vs.toArray c) :: (news ++ tl) := by
            simp only [List.mem_cons, List.mem_append] at hq ⊢
            rcases hq with h | h | h | h <;> simp only [h, true_or, or_true]
          simp only [List.mem_cons, List.mem_append] at hp
          rcases hp with rfl | rfl | h | h
          · exact Ne.symm (o5 q (List.mem_append_right _ (List.mem_cons_of_mem _ hq')))
          · exact Nat.ne_of_gt (ktn_ltOf lt q hq')
          · exact Nat.ne_of_gt (ho5 p h q (List.mem_cons_of_mem _ hq'))
          · simp only [List.mem_cons] at hq
            rcases hq with rfl | rfl | rfl | hq
            · exact (hap1 p h).2
            · have := hoff p (by simp only [List.mem_cons, List.mem_append, h, or_true])
              simpa using this
            · exact (hap1 p h).1
            · exact hap2 p h q hq
        have hset : ∀ p ∈ (L' + 1, o') :: (I, oI) :: (news ++ ((D5, LCg.lst zs5) :: (Dt, pairO told' tt ut ct) :: (tl5 ++ tl))), p.1 ≠ D' := by
          intro p hp
          rcases List.mem_cons.mp hp with rfl | hp
          · exact Nat.ne_of_lt hRC
          · rcases List.mem_cons.mp hp with rfl | hp
            · exact Ne.symm hIR
            · rcases List.mem_append.mp hp with h | h
              · exact hnewsR p h
              · exact hX p h (D', listOf vs.toArray c) (by simp)))
    k_with "use" => (refine' usePair (by k_asm) (by k_asm) (over_ok (by k_mem) (by k_mem) (by assumption)) ?k1 ?k3 ?k5 ?kK ?kd ?ku ?_; walk_at "usePair")
    k_with "set" => (
      refine set_at (rest := (L' + 1, o') :: (I, oI) :: (news ++ ((D5, LCg.lst zs5) :: (Dt, pairO told' tt ut ct) :: (tl5 ++ tl)))) (by assumption) (by assumption) (by k_mem) ?hs hset (by omega) (by rw [hall.length, outerO_len hg]; omega) (by omega) ?_
      (case hs => (intro p9 h9; simp only [List.mem_cons, List.mem_append] at h9 ⊢; rcases h9 with h | h | h | h | h | h | h <;> simp only [h, true_or, or_true]))
      intro h4 F4 N4; (try k_sweep))
    have hgl5 : vs.length = g₀.length := by rw [hall.length, outerO_len hg]
    k_with "for" => walk_at "go for"
    k_steps
    · refine for_range (n := g₀.length) (J := fun m₀ base k m nx => ∃ vs c g2 tl, innerO i (g.set i r') k = some g2 ∧ nx = (D', listOf vs.toArray c) :: (L' + 1, o') :: (I, oI) :: (news ++ tl) ∧ (Dt, pairO told' tt ut ct) ∈ tl ∧ All2 (RowIn (tl ++ ro)) vs g2 ∧ Holds [(Str.ofString "rows", .ref D'), (Str.ofString "told", .ref Dt), (Str.ofString "size", .int (g₀.length : Nat) ts), (Str.ofString "at", .int i t)] m ∧ (∀ p ∈ tl, p.1 ≠ D' ∧ p.1 ≠ L' + 1 ∧ p.1 ≠ I) ∧ Apart tl news) (by assumption) (by rfl) (by assumption) (range_small hlen) range_size (by assumption) (by assumption) ?h1 ?turn1 ?done1
      case h1 =>
        refine ⟨vs.set i (.ref D5), c, _, (D5, LCg.lst zs5) :: (Dt, pairO told' tt ut ct) :: (tl5 ++ tl), rfl, rfl, List.mem_cons_of_mem _ List.mem_cons_self, ?_, by walk_at "holds", fun p hp => ⟨hX p hp (D', listOf vs.toArray c) (by simp), hX p hp (L' + 1, o') (by simp), hX p hp (I, oI) (by simp)⟩, fun p hp q hq => hX p hp q (by simp [hq])⟩
        refine All2.set (hall.mono fun _ _ => RowIn.mono fun p hp => ?_) ⟨D5, zs5, zs5.length, rfl, List.mem_append_left _ List.mem_cons_self, hz6.mono fun _ _ => PairIn.mono fun p hp => ?_⟩
        · simp only [List.mem_append, List.mem_cons] at hp ⊢
          rcases hp with h | h <;> simp only [h, true_or, or_true]
        · simp only [List.mem_append, List.mem_cons, hp, true_or, or_true]
      case done1 =>
        intro m2 nx2 h2 tk2 hJ2 F2' N2'
        obtain ⟨vs2, c2, g2, tl2, hin2, rfl, hT2, hall2, hm2, hap3, hap4⟩ := hJ2
        k_with_none
        (try dsimp only)
        (try k_unmd)
        (try k_fold)
        k_steps
        have hnext : outerO g₀ (i + 1) = some (g2, told') := by
          rw [outerO_len hg, hin2] at hin
          rw [hs3]
          have e1 := Option.some.inj hin
          exact congrArg some (Prod.ext e1.symm hst)
        refine hQt _ _ (tend ((D', listOf vs2.toArray c2) :: (L' + 1, o') :: (news ++ tl2)) (by assumption) (by assumption) (fun p hp => ?_) (fun p hp => ?_) ⟨(fun _ h => nomatch h), vs2, c2, g2, told', Dt, o', _, tl2, hnext, rfl, ⟨Dt, tt, ut, ct, rfl, hT2⟩, hall2, d', ⟨ts, fun p hp => hm2 p ?_⟩, fun p hp => ⟨(hap3 p hp).1, (hap3 p hp).2.1⟩, hap4⟩)
        · simp only [List.mem_append, List.mem_cons, List.not_mem_nil, or_false] at hp ⊢
          rcases hp with h | h | h | h | h <;> simp only [h, true_or, or_true]
        · rw [List.mem_singleton]
          simp only [List.mem_append, List.mem_cons] at hp
          rcases hp with rfl | rfl | h | h
          · exact hIR
          · exact hIC
          · exact fun e => hoff p (by simp only [List.mem_append, List.mem_cons, h, true_or, or_true]) (List.mem_singleton.mpr e)
          · exact (hap3 p h).2.2
        · simp only [List.mem_cons, List.not_mem_nil, or_false] at hp ⊢
          rcases hp with h | h | h <;> simp only [h, true_or, or_true]
      case turn1 =>
        clear F2 hm hoffC hr9 hp9 hset hX ho5 hz5 hz6 o5 lt hm' hm8
        intro I2 oI2 k t2 m2 nx2 s₂ Q₂ E₂ hE₂ hI2 hk2 hJ2 hoff2 F2' N2'
        refine turn_gen fun Qt2 hQt2 => ?_
        clear hI2
        obtain ⟨vs2, c2, g2, tl2, hin2, rfl, hT2, hall2, hm2, hap3, hap4⟩ := hJ2
        obtain ⟨u2, F3⟩ := holds_fr hm2 F2'
        clear F2' hm2
        dsimp only [mapC] at F3
        rw [outerO_len hg] at hin
        obtain ⟨g3, g4, hi3, hi4, hi5⟩ := innerO_step hin k hk2
        rw [hin2] at hi3
        obtain rfl := Option.some.inj hi3
        have hgl2 : g2.length = g₀.length := by rw [innerO_len hin2, List.length_set, outerO_len hg]
        have hvl2 : vs2.length = g₀.length := by rw [hall2.length, hgl2]
        have hsub2 : ∀ p ∈ tl2 ++ ro, p ∈ news ++ tl2 := fun p hp => by
          rcases List.mem_append.mp hp with h | h
          · exact List.mem_append_right _ h
          · exact List.mem_append_left _ (hro _ h)
        have hI2R : D' ≠ I2 := by simpa using hoff2 _ List.mem_cons_self
        simp only [Int.zero_add, List.cons_append, List.nil_append] at N2' ⊢
        (try k_unmd)
        (try k_fold)
        k_with_none
        k_with "sub" => first
          | (refine sub_row (by assumption) (by k_mem) hall2 (by omega) (by omega) (by assumption) ?_; intro a' vs' c' hm' ha'; have hm8 := hsub2 _ hm')
          | (refine sub_pair (by assumption) (by k_mem) (by assumption) (by omega) (by omega) (by assumption) ?_; intro a' t' u' c' hm'; have hm8 := hsub2 _ hm')
        have same : ∀ {h' : Heap} {tk' : Nat} {m' : Str → Option Value}, innerO i (g.set i r') (k + 1) = some g2 → Fr g' L' h' m' → Holds [(Str.ofString "rows", .ref D'), (Str.ofString "told", .ref Dt), (Str.ofString "size", .int (g₀.length : Nat) ts), (Str.ofString "at", .int i t)] m' → News g' L' h' ((I2, oI2) :: (D', listOf vs2.toArray c2) :: (L' + 1, o') :: (I, oI) :: (news ++ tl2)) →
            TEnd g' L' s₂ [(I2, oI2)] [I2] (fun m' nx' => (∀ p ∈ ([] : Led), p ∈ nx') ∧ ∃ vs c g2 tl, innerO i (g.set i r') (k + 1) = some g2 ∧ nx' = (D', listOf vs.toArray c) :: (L' + 1, o') :: (I, oI) :: (news ++ tl) ∧ (Dt, pairO told' tt ut ct) ∈ tl ∧ All2 (RowIn (tl ++ ro)) vs g2 ∧ Holds [(Str.ofString "rows", .ref D'), (Str.ofString "told", .ref Dt), (Str.ofString "size", .int (g₀.length : Nat) ts), (Str.ofString "at", .int i t)] m' ∧ (∀ p ∈ tl, p.1 ≠ D' ∧ p.1 ≠ L' + 1 ∧ p.1 ≠ I) ∧ Apart tl news) { s₂ with heap := h', toks := tk' } :=
          fun hi F' hm' N' => tend ((D', listOf vs2.toArray c2) :: (L' + 1, o') :: (I, oI) :: (news ++ tl2)) F' N' (fun p hp => hp) hoff2 ⟨(fun _ h => nomatch h), vs2, c2, g2, tl2, hi, rfl, hT2, hall2, hm', hap3, hap4⟩
        by_cases hki : k = i
        · subst hki
          obtain rfl := stepO_eq hi4
          k_with "ite" => (refine ite_neg (by simp) ?_)
          k_steps
          exact hQt2 _ _ (same hi5 (by assumption) (by walk_at "holds") (by assumption))
        · obtain ⟨r2, b2, x2, hr2, hb2, hx2, hz2, hnz2⟩ := stepO_ne hi4 hki
          have hr3 : g2[(k : Int).toNat]? = some r2 := hr2
          have hb3 : g2[(i : Int).toNat]? = some b2 := hb2
          have hx3 : r2[(i : Int).toNat]? = some x2 := hx2
          have hki' : (k : Int) ≠ (i : Int) := by omega
          by_cases hx0 : x2.1 = 0
          · obtain rfl := hz2 hx0
            k_with "ite" => first | (refine ite_pos (by simpa using hki') ?_) | (refine ite_neg (by simpa using hx0) ?_)
            k_steps
            exact hQt2 _ _ (same hi5 (by assumption) (by walk_at "holds") (by assumption))
          · obtain ⟨hl2, r3, hc3, rfl⟩ := hnz2 hx0
            k_with "ite" => (refine ite_pos (by first | simpa using hki' | simpa using hx0) ?_)
            k_with "use" => (refine' useRow (by k_asm) (by k_asm) (cleared_ok' (ro := tl2 ++ ro) (by k_mem) (by k_mem) (by k_mem) (by intro p9 h9; have h9' := hsub2 p9 h9; walk_at "mem") (by assumption) (by assumption) hl2 hc3) ?k1 ?k3 ?k5 ?kK ?kd ?ku ?_; walk_at "use"; intro D6 zs6 c6 tl6 h6 tk6 F6 N6 hz6 ho6 hD6 hl6; walk_at "used")
            k_with "set" => (
              have hX6 : ∀ p ∈ (D6, listOf zs6.toArray c6) :: (tl6 ++ tl2), ∀ q ∈ (I2, oI2) :: (D', listOf vs2.toArray c2) :: (L' + 1, o') :: (I, oI) :: news, p.1 ≠ q.1 := by
                intro p hp q hq
                have hq' : q ∈ (I2, oI2) :: (D', listOf vs2.toArray c2) :: (L' + 1, o') :: (I, oI) :: (news ++ tl2) := by
                  simp only [List.mem_cons, List.mem_append] at hq ⊢
                  rcases hq with h | h | h | h | h <;> simp only [h, true_or, or_true]
                simp only [List.mem_cons, List.mem_append] at hp
                rcases hp with rfl | h | h
                · exact Nat.ne_of_gt (ktn_ltOf hl6 q hq')
                · exact Nat.ne_of_gt (ho6 p h q hq')
                · simp only [List.mem_cons] at hq
                  rcases hq with rfl | rfl | rfl | rfl | hq
                  · have := hoff2 p (by simp only [List.mem_cons, List.mem_append, h, or_true])
                    simpa using this
                  · exact (hap3 p h).1
                  · exact (hap3 p h).2.1
                  · exact (hap3 p h).2.2
                  · exact hap4 p h q hq
              refine set_at (rest := (I2, oI2) :: (L' + 1, o') :: (I, oI) :: (news ++ ((D6, listOf zs6.toArray c6) :: (tl6 ++ tl2)))) (by assumption) (by assumption) (by k_mem) ?hs ?ho (by omega) (by omega) (by omega) ?_
              (case hs => (intro p9 h9; simp only [List.mem_cons, List.mem_append] at h9 ⊢; rcases h9 with h | h | h | h | h | h | h <;> simp only [h, true_or, or_true]))
              (case ho =>
                intro p hp
                rcases List.mem_cons.mp hp with rfl | hp
                · exact Ne.symm hI2R
                · rcases List.mem_cons.mp hp with rfl | hp
                  · exact Nat.ne_of_lt hRC
                  · rcases List.mem_cons.mp hp with rfl | hp
                    · exact Ne.symm hIR
                    · rcases List.mem_append.mp hp with h | h
                      · exact hnewsR p h
                      · exact hX6 p h (D', listOf vs2.toArray c2) (by simp))
              intro h4 F4 N4
              (try k_sweep))
            k_steps
            refine hQt2 _ _ (tend ((D', listOf (vs2.set k (.ref D6)).toArray c2) :: (L' + 1, o') :: (I, oI) :: (news ++ ((D6, listOf zs6.toArray c6) :: (tl6 ++ tl2)))) (by assumption) (by assumption) (fun p hp => ?_) (fun p hp => ?_) ⟨(fun _ h => nomatch h), vs2.set k (.ref D6), c2, g2.set k r3, (D6, listOf zs6.toArray c6) :: (tl6 ++ tl2), hi5, rfl, ?_, ?_, (by walk_at "holds"), fun p hp => ⟨hX6 p hp (D', listOf vs2.toArray c2) (by simp), hX6 p hp (L' + 1, o') (by simp), hX6 p hp (I, oI) (by simp)⟩, fun p hp q hq => hX6 p hp q (by simp [hq])⟩)
            · simp only [List.mem_append, List.mem_cons, List.not_mem_nil, or_false, false_or, Int.toNat_natCast] at hp ⊢
              rcases hp with h | h | h | h | h | h | h | h <;> simp only [h, true_or, or_true]
            · rw [List.mem_singleton]
              simp only [List.mem_append, List.mem_cons] at hp
              rcases hp with rfl | rfl | rfl | h | h | h | h
              · exact hI2R
              · exact fun e => hoff2 (L' + 1, o') (by simp) (List.mem_singleton.mpr e)
              · exact fun e => hoff2 (I, oI) (by simp) (List.mem_singleton.mpr e)
              · exact fun e => hoff2 p (by simp only [List.mem_append, List.mem_cons, h, true_or, or_true]) (List.mem_singleton.mpr e)
              · exact hX6 p (by simp only [List.mem_append, List.mem_cons, h, true_or]) (I2, oI2) (by simp)
              · exact hX6 p (by simp only [List.mem_append, List.mem_cons, h, true_or, or_true]) (I2, oI2) (by simp)
              · exact hX6 p (by simp only [List.mem_append, List.mem_cons, h, true_or, or_true]) (I2, oI2) (by simp)
            · exact List.mem_cons_of_mem _ (List.mem_append_right _ hT2)
            · refine All2.set (hall2.mono fun _ _ => RowIn.mono fun p hp => ?_) ⟨D6, zs6, c6, rfl, List.mem_append_left _ List.mem_cons_self, hz6.mono fun _ _ => PairIn.mono fun p hp => ?_⟩
              · simp only [List.mem_append, List.mem_cons] at hp ⊢
                rcases hp with h | h <;> simp only [h, true_or, or_true]
              · simp only [List.mem_append, List.mem_cons, hp, true_or, or_true]
    · rename_i D9 t9 u9 c9 h9 tk9 F9 N9 l9
      refine hQz _ _ (zend ((D9, pairO z5 t9 u9 c9) :: (tl5 ++ _)) F9 N9 (fun p hp => ?_) (above_off1 l9 off5) ⟨⟨(D9, pairO z5 t9 u9 c9) :: tl5, rfl, all2_snoc hz5 hz7 pairIn_new, fun p hp q hq => ?_⟩, List.mem_cons_of_mem _ hl5⟩)
      · simp only [List.mem_append, List.mem_cons, List.not_mem_nil, or_false] at hp ⊢
        rcases hp with h | h | h | h | h | h <;> simp only [h, true_or, or_true]
      · rcases List.mem_cons.mp hp with rfl | hp
        · exact ktn_ltOf l9 q (List.mem_append_right _ (List.mem_cons_of_mem _ (List.mem_cons_of_mem _ (List.mem_append_right _ hq))))
        · exact ho5 p hp q hq
  case done =>
    clear hF9 hN2 hRg hK9
    intro m₁ nx h tk9 hJ F1 N1
    obtain ⟨vs, c, g, told, D, oc, v₀, tl, hg, rfl, ⟨aT, tT, uT, cT, eT, hT⟩, hall, hoc, ⟨ts, hm⟩, hap1, hap2⟩ := hJ
    cases eT
    have hg2 : res = (g, told) := Option.some.inj ((show outerO g₀ g₀.length = some res from hO).symm.trans hg)
    subst hg2
    obtain ⟨u9, F2⟩ := holds_fr hm F1
    clear F1
    dsimp only [mapC] at F2
    k_with_none
    (try dsimp only)
    (try k_unmd)
    (try k_fold)
    k_steps
    rename_i l7 kF kN Tc kX
    refine hret _ _ _ _ ⟨_, 0, D', vs, c, _, tl, rfl, rfl, ⟨_, tT, uT, cT, rfl, hT⟩, hall, fun p hp q hq => ?_⟩ kF (cb_drop kN fun p hp => ?_)
    · simp only [List.mem_cons] at hp
      rcases hp with rfl | rfl | h
      · exact Nat.ne_of_gt (ktn_ltOf l7.2.2 q (List.mem_append_left _ hq))
      · exact Ne.symm (Nat.ne_of_lt (ktn_ltOf l1.2.2.2 q hq))
      · exact hap2 p h q hq
    · simp only [List.mem_cons, List.mem_append] at hp ⊢
      rcases hp with h | h | h | h <;> simp only [h, true_or, or_true]

def chanceF (size at' a b : Int) : Int × Int := if a = b then fr at' size else fr (a ^ (size - at').toNat * (a ^ at'.toNat - b ^ at'.toNat)) (a ^ size.toNat - b ^ size.toNat)
def roundsF (size at' a b : Int) : Int × Int := if a = b then (at' * (size - at'), 1) else
  fr ((a + b) * (at' * (chanceF size at' a b).2 - size * (chanceF size at' a b).1)) ((b - a) * (chanceF size at' a b).2)
/-- where the two are safe -/
def chanceOk (size at' a b : Int) : Bool := decide (0 ≤ at') && decide (at' ≤ size) && decide (0 < size) && decide (size ≤ 1000) && Sm a && Sm b && Sm (a ^ (size - at').toNat) && (decide (a = b) || (decide (a ^ size.toNat - b ^ size.toNat ≠ 0) && decide ((a ^ size.toNat - b ^ size.toNat).natAbs < 2 ^ 200)))
def roundsOk (size at' a b : Int) : Bool := chanceOk size at' a b && Sm at' && Sm (size - at') && Sm (a + b) && Sm (b - a) && (decide (a = b) || (decide ((b - a) * (chanceF size at' a b).2 ≠ 0) && decide (((b - a) * (chanceF size at' a b).2).natAbs < 2 ^ 200)))

set_option maxHeartbeats 1000000 in
theorem chance_ok {w : World} {size at' va vb : Int} {t₁ t₂ t₃ t₄ : Tok} {news : Led} (h : chanceOk size at' va vb = true) : CallOK w 129 3 [.int size t₁, .int at' t₂, .int va t₃, .int vb t₄] news (PairPost (chanceF size at' va vb) news) := by
  simp only [chanceOk, Bool.and_eq_true, decide_eq_true_eq, Bool.or_eq_true] at h
  obtain ⟨⟨⟨⟨⟨⟨⟨h1, h2⟩, h3⟩, h4⟩, h5⟩, h6⟩, h7⟩, h8⟩ := h
  have h9 : size.natAbs < 2 ^ 200 := by
    have : size.natAbs ≤ 1000 := by omega
    exact Nat.lt_of_le_of_lt this (by decide)
  have ha64 : va.natAbs < 2 ^ 64 := Nat.lt_of_lt_of_le (Sm.lt h5) (by decide)
  have hb64 : vb.natAbs < 2 ^ 64 := Nat.lt_of_lt_of_le (Sm.lt h6) (by decide)
  by_cases he : va = vb
  · have e : chanceF size at' va vb = fr at' size := if_pos he
    rw [e]
    unfold CallOK
    k_fill
    k_with_none
    intro p loose mean mg mb dp un gd cn cs a ccd cl outer A₀ base h₀ L m s Q E B F X N T hk hd hu hret
    refine wpAny_call ?_
    k_dflt ktr_enter
    k_with "ite" => (refine ite_pos (by simpa using he) ?_)
    k_with "use" => (refine' usePair (by k_asm) (by k_asm) (fr_ok (by omega) h9) ?k1 ?k3 ?k5 ?kK ?kd ?ku ?_; walk_at "usePair")
    k_steps
    walk_at "pairEnd" <;> rfl
  · rcases h8 with h8 | ⟨h8, h10⟩
    · exact absurd h8 he
    have e : chanceF size at' va vb = fr (va ^ (size - at').toNat * (va ^ at'.toNat - vb ^ at'.toNat)) (va ^ size.toNat - vb ^ size.toNat) := if_neg he
    rw [e]
    unfold CallOK
    k_fill
    k_with_none
    intro p loose mean mg mb dp un gd cn cs a ccd cl outer A₀ base h₀ L m s Q E B F X N T hk hd hu hret
    refine wpAny_call ?_
    k_dflt ktr_enter
    k_with "ite" => (refine ite_neg (by simpa using he) ?_)
    k_with "pow" => first | (with_reducible refine pow_int_small (by omega) (by omega) ha64 ?_) | (with_reducible refine pow_int_small (by omega) (by omega) hb64 ?_)
    k_with "mul" => (with_reducible refine mul_int ?_ (Sm.mul h7))
    k_with "use" => (refine' usePair (by k_asm) (by k_asm) (fr_ok h8 h10) ?k1 ?k3 ?k5 ?kK ?kd ?ku ?_; walk_at "usePair")
    k_steps
    walk_at "pairEnd" <;> rfl
set_option maxHeartbeats 1000000 in
theorem rounds_ok {w : World} {size at' va vb : Int} {t₁ t₂ t₃ t₄ : Tok} {news : Led} (h : roundsOk size at' va vb = true) : CallOK w 136 4 [.int size t₁, .int at' t₂, .int va t₃, .int vb t₄] news (PairPost (roundsF size at' va vb) news) := by
  simp only [roundsOk, Bool.and_eq_true, decide_eq_true_eq, Bool.or_eq_true] at h
  obtain ⟨⟨⟨⟨⟨h1, h2⟩, h3⟩, h4⟩, h5⟩, h8⟩ := h
  have hsz : Sm size = true := by
    simp only [chanceOk, Bool.and_eq_true, decide_eq_true_eq] at h1
    exact decide_eq_true (by have := h1.1.1.1.1.2; have := h1.1.1.1.1.1.2; omega)
  by_cases he : va = vb
  · have e : roundsF size at' va vb = (at' * (size - at'), 1) := if_pos he
    rw [e]
    unfold CallOK
    k_fill
    k_with_none
    intro p loose mean mg mb dp un gd cn cs a ccd cl outer A₀ base h₀ L m s Q E B F X N T hk hd hu hret
    refine wpAny_call ?_
    k_dflt ktr_enter
    k_with "ite" => (refine ite_pos (by simpa using he) ?_)
    k_with "mul" => (with_reducible refine mul_int ?_ (Sm.mul h2))
    k_steps
    walk_at "pairEnd" <;> rfl
  · rcases h8 with h8 | ⟨h8, h10⟩
    · exact absurd h8 he
    have e : roundsF size at' va vb = fr ((va + vb) * (at' * (chanceF size at' va vb).2 - size * (chanceF size at' va vb).1)) ((vb - va) * (chanceF size at' va vb).2) := if_neg he
    rw [e]
    unfold CallOK
    k_fill
    k_with_none
    intro p loose mean mg mb dp un gd cn cs a ccd cl outer A₀ base h₀ L m s Q E B F X N T hk hd hu hret
    refine wpAny_call ?_
    k_dflt ktr_enter
    k_with "ite" => (refine ite_neg (by simpa using he) ?_)
    k_with "mul" => first | (with_reducible refine mul_int ?_ (Sm.mul h2)) | (with_reducible refine mul_int ?_ (Sm.mul hsz)) | (with_reducible refine mul_int ?_ (Sm.mul h4)) | (with_reducible refine mul_int ?_ (Sm.mul h5))
    k_with "use" => first
      | ((with_reducible show wpAny _ _ (call (Value.ref 129) _) _ _ _); refine' usePair (by k_asm) (by k_asm) (chance_ok h1) ?k1 ?k3 ?k5 ?kK ?kd ?ku ?_; walk_at "usePair")
      | (refine' usePair (by k_asm) (by k_asm) (fr_ok h8 h10) ?k1 ?k3 ?k5 ?kK ?kd ?ku ?_; walk_at "usePair")
    k_steps
    walk_at "pairEnd" <;> rfl

section
variable {prog : Program} {w : World} {A : Around} {E : Value → Shared → Prop} {s : Shared} {h₀ : Heap} {L : Addr} {news : Led}
theorem sub_int {value slice : PySem.Expr} {l : Addr} {vs : List Value} {ns : List Int} {c : Nat} {k x : Int} {u : Tok} {Q : Value → Shared → Prop}
    (N : News h₀ L s.heap news) (hm : (l, listOf vs.toArray c) ∈ news) (hi : IntsAre vs ns) (h0 : 0 ≤ k) (hk : k < 2 ^ 63) (hx : ns[k.toNat]? = some x)
    (h : ∀ t, Q (.int x t) s)
    (hs : subscripted slice false (.ref l) (.int k u) = operate [.ref l, .int k u] (getItem (.ref l) (.int k u)) := by with_unfolding_all rfl) :
    wpAny (model prog w) A (subscriptTail value slice (.ref l) (.int k u)) Q E s := by
  obtain ⟨t, ht⟩ := hi.get _ _ hx
  exact sub_at N hm h0 hk ht (h t) hs
end
abbrev CoinPost (below : Int) (Bg S : Addr) (spot : Int) (cB : Nat) (rest : Led) : Value → Led → Prop := fun r news' => ∃ c t' t'', r = .int c t' ∧ 0 ≤ c ∧ c < below ∧ news' = (Bg, listOf [.ref S, .int (spot + 1) t''].toArray cB) :: rest
theorem coin_range {x below : Int} (h : 0 < below) : 0 ≤ x.fmod below ∧ x.fmod below < below := ⟨Int.fmod_nonneg_of_pos x h, Int.fmod_lt_of_pos x h⟩

set_option maxHeartbeats 1000000 in
theorem coin_ok {w : World} {Bg S : Addr} {spot below : Int} {t tb : Tok} {cB cS : Nat} {vs : List Value} {ns : List Int} {rest : Led} (hS : (S, listOf vs.toArray cS) ∈ rest) (hi : IntsAre vs ns) (hoff : ∀ p ∈ rest, p.1 ≠ Bg) (h0 : 0 ≤ spot) (h1 : spot < 1000) (hb : 0 < below) (hlen : ns.length < 2 ^ 20) (hbs : Sm below = true) :
    CallOK w 115 1 [.ref Bg, .int below tb] ((Bg, listOf [.ref S, .int spot t].toArray cB) :: rest) (CoinPost below Bg S spot cB rest) := by
  have hvl : vs.length = ns.length := hi.length
  have hlt : (spot < (ns.length : Int)) ∨ ¬ (spot < (ns.length : Int)) := by omega
  unfold CallOK
  k_fill
  k_with_none
  intro p loose mean mg mb dp un gd cn cs a ccd cl outer A₀ base h₀ L m s Q E B F X N T hk hd hu hret
  refine wpAny_call ?_
  k_dflt ktr_enter
  k_with "len" => (refine len_at (by assumption) (by k_mem) hvl hlen ?_)
  k_with "set" => (
    refine set_at (rest := rest) (by assumption) (by assumption) (by k_mem) (fun p hp => List.mem_cons_of_mem _ hp) hoff (by decide) (by simp) (by decide) ?_
    intro h4 F4 N4
    (try k_sweep))
  rcases hlt with hlt | hlt
  · obtain ⟨x, hx⟩ : ∃ x, ns[spot.toNat]? = some x := ⟨_, List.getElem?_eq_getElem (by omega)⟩
    k_with "sub" => (refine sub_int (by assumption) (by k_mem) hi h0 (by omega) hx ?_; intro t8)
    k_with "ite" => (refine ite_pos (by simpa using hlt) ?_)
    k_steps
    exact hret _ _ _ _ ⟨_, _, _, rfl, (coin_range hb).1, (coin_range hb).2, rfl⟩ (by assumption) (by assumption)
  · k_with "ite" => (refine ite_neg (by simpa using hlt) ?_)
    k_steps
    exact hret _ _ _ _ ⟨_, _, _, rfl, (coin_range hb).1, (coin_range hb).2, rfl⟩ (by assumption) (by assumption)

def IntRowIn (news : Led) (v : Value) (r : List Int) : Prop := ∃ a vs c, v = .ref a ∧ (a, listOf vs.toArray c) ∈ news ∧ IntsAre vs r
theorem IntRowIn.mono {news news' : Led} (hs : ∀ p ∈ news, p ∈ news') {v : Value} {x : List Int} (h : IntRowIn news v x) : IntRowIn news' v x := by
  obtain ⟨a, vs, c, rfl, hm, ha⟩ := h
  exact ⟨a, vs, c, rfl, hs _ hm, ha⟩
section
variable {prog : Program} {w : World} {A : Around} {E : Value → Shared → Prop} {s : Shared} {h₀ : Heap} {L : Addr} {news : Led}
theorem sub_introw {value slice : PySem.Expr} {l : Addr} {vs : List Value} {c : Nat} {k : Int} {u : Tok} {g : List (List Int)} {r : List Int} {news' : Led} {Q : Value → Shared → Prop}
    (N : News h₀ L s.heap news) (hm : (l, listOf vs.toArray c) ∈ news) (hall : All2 (IntRowIn news') vs g) (h0 : 0 ≤ k) (hk : k < 2 ^ 63) (hx : g[k.toNat]? = some r)
    (h : ∀ a vs' c', (a, listOf vs'.toArray c') ∈ news' → IntsAre vs' r → Q (.ref a) s)
    (hs : subscripted slice false (.ref l) (.int k u) = operate [.ref l, .int k u] (getItem (.ref l) (.int k u)) := by with_unfolding_all rfl) :
    wpAny (model prog w) A (subscriptTail value slice (.ref l) (.int k u)) Q E s := by
  obtain ⟨v, hv, a, vs', c', rfl, hm', ha⟩ := hall.get hx
  exact sub_at N hm h0 hk hv (h _ _ _ hm' ha) hs
end
/-- the product of a row and a column, its first k places -/
def dotO (r : List Int) (g : List (List Int)) (spot : Nat) : Nat → Option Int
  | 0 => some 0
  | k + 1 => (dotO r g spot k).bind fun t => match r[k]?, g[k]? with
    | some x, some gr => (match gr[spot]? with
      | some y => if Sm x = true then some (t + x * y) else none
      | none => none)
    | _, _ => none
theorem dotO_step {r : List Int} {g : List (List Int)} {spot n : Nat} {z : Int} (h : dotO r g spot n = some z) : ∀ k, k < n → ∃ t x gr y, dotO r g spot k = some t ∧ r[k]? = some x ∧ g[k]? = some gr ∧ gr[spot]? = some y ∧ Sm x = true ∧ dotO r g spot (k + 1) = some (t + x * y) := by
  induction n generalizing z with
  | zero => intro k hk; omega
  | succ n ih =>
    intro k hk
    obtain ⟨t, h1, h2⟩ := Option.bind_eq_some_iff.mp h
    by_cases e : k = n
    · subst e
      split at h2
      · rename_i x gr hx hg
        split at h2
        · rename_i y hy
          split at h2
          · rename_i hs
            refine ⟨t, x, gr, y, h1, hx, hg, hy, hs, ?_⟩
            rw [h]
            exact h2.symm
          · cases h2
        · cases h2
      · cases h2
    · exact ih h1 k (by omega)

/-- a function object of the ledger -/
abbrev FnIn (news : Led) (f : Addr) : Prop := ∃ oc od fd sl, (f, (⟨oc, od, .func fd, sl⟩ : Obj)) ∈ news
/-- what is handed as plus and times -/
structure Ops (w : World) (P T : Addr) (base : Led) : Prop where
  p : FnIn base P
  t : FnIn base T
  plus : ∀ (news : Led) (x y : Int) (t u : Tok), (∀ p ∈ base, p ∈ news) → CallOK w P 1 [.int x t, .int y u] news (IntPost (x + y) news)
  times : ∀ (news : Led) (x y : Int) (t u : Tok), (∀ p ∈ base, p ∈ news) → Sm x = true → CallOK w T 1 [.int x t, .int y u] news (IntPost (x * y) news)

set_option maxHeartbeats 1000000 in
theorem dot_ok {w : World} {Rw G fP fT : Addr} {vs us : List Value} {c d : Nat} {r : List Int} {g : List (List Int)} {spot : Nat} {tk₀ : Tok} {z : Int} {news ro bs₀ : Led} (hR : (Rw, listOf vs.toArray c) ∈ news) (hr : IntsAre vs r) (hG : (G, listOf us.toArray d) ∈ news) (hro : ∀ p ∈ ro, p ∈ news) (hg : All2 (IntRowIn ro) us g)
    (O : Ops w fP fT bs₀) (hb : ∀ p ∈ bs₀, p ∈ news) (hO : dotO r g spot r.length = some z) (hsp : spot < 2 ^ 20) (hrl : r.length < 2 ^ 20) : CallOK w 56 3 [.ref Rw, .ref G, .int spot tk₀, .ref fP, .ref fT] news (IntPost z news) := by
  obtain ⟨ocP, odP, fdP, slP, hP⟩ := O.p
  obtain ⟨ocT, odT, fdT, slT, hT⟩ := O.t
  have hP' := hb _ hP
  have hT' := hb _ hT
  have hvl : vs.length = r.length := hr.length
  unfold CallOK
  k_fill
  k_with_none
  intro p loose mean mg mb dp un gd cn cs a ccd cl outer A₀ base h₀ L m s Q E B F X N T hk hd hu hret
  refine wpAny_call ?_
  k_dflt ktr_enter
  k_with "for" => walk_at "go for"
  k_steps
  refine for_enum (J := fun m₀ bs i m nx => ∃ t tt, dotO r g spot i = some t ∧ nx = bs ∧ Holds [(Str.ofString "total", .int t tt), (Str.ofString "grid", .ref G), (Str.ofString "spot", .int spot tk₀), (Str.ofString "plus", .ref fP), (Str.ofString "times", .ref fT)] m) (by first | assumption | passes_own) (by rfl) (by assumption) (by assumption) (by k_mem) ⟨0, _, rfl, rfl, by walk_at "holds"⟩ ?turn ?done
  case turn =>
    clear hret F N B X T
    intro I i a t Ta its m₁ nx s₁ Q₁ E₁ hE₁ hI ha hTa hJ hits hl hoff F1 N1
    refine turn_gen fun Qt hQt => ?_
    clear hI
    obtain ⟨t1, tt, ht1, rfl, hm⟩ := hJ
    obtain ⟨t2, x, gr, y, h1, h2, h3, h4, h5, h6⟩ := dotO_step hO i (by rw [← hvl]; exact (List.getElem?_eq_some_iff.mp ha).1)
    rw [ht1] at h1
    obtain rfl := Option.some.inj h1
    obtain ⟨tx, hx⟩ := hr.get i x h2
    rw [ha] at hx
    obtain rfl := Option.some.inj hx
    obtain ⟨u9, F2⟩ := holds_fr hm F1
    clear F1 hm
    dsimp only [mapC] at F2
    have hg3 : g[(i : Int).toNat]? = some gr := h3
    have hg4 : gr[(spot : Int).toNat]? = some y := h4
    have hil : i < 2 ^ 20 := Nat.lt_trans (by rw [← hvl]; exact (List.getElem?_eq_some_iff.mp ha).1) hrl
    k_with_none
    k_with "callee" => (refine callWith_F (FnAt.of (by k_asm) (by k_mem)) ?_)
    k_with "sub" => first
      | (refine sub_introw (by assumption) (by k_mem) hg (by omega) (by omega) (by assumption) ?_; intro a' vs' c' hm' ha'; have hm8 := hro _ hm')
      | (refine sub_int (by assumption) (by k_mem) (by assumption) (by omega) (by omega) (by assumption) ?_; intro t8)
    k_with "use" => first
      | ((with_reducible show wpAny _ _ (call (Value.ref fT) _) _ _ _); refine' useInt (by k_asm) (by k_asm) (O.times _ _ _ _ _ (by intro p9 h9; have h9' := hb p9 h9; walk_at "mem") h5) ?k1 ?k3 ?k5 ?kK ?kd ?ku ?_; walk_at "useInt")
      | (refine' useInt (by k_asm) (by k_asm) (O.plus _ _ _ _ _ (by intro p9 h9; have h9' := hb p9 h9; walk_at "mem")) ?k1 ?k3 ?k5 ?kK ?kd ?ku ?_; walk_at "useInt")
    k_steps
    exact hQt _ _ (tend nx (by assumption) (by assumption) (fun p hp => hp) hoff ⟨hl, t1 + x * y, _, h6, rfl, by walk_at "holds"⟩)
  case done =>
    intro m₁ nx h tk9 hJ F1 N1
    obtain ⟨t1, tt, ht1, rfl, hm⟩ := hJ
    rw [hvl, hO] at ht1
    obtain rfl := Option.some.inj ht1
    obtain ⟨u9, F2⟩ := holds_fr hm F1
    clear F1
    dsimp only [mapC] at F2
    k_with_none
    (try dsimp only)
    (try k_unmd)
    (try k_fold)
    k_steps
    walk_at "intEnd"
    rfl

section
variable {prog : Program} {w : World} {A : Around} {E : Value → Shared → Prop} {s : Shared} {h₀ : Heap}
/-- a list of the ledger is lengthened by one; of the rest of the ledger what is named stays -/
theorem append_to {L R : Addr} {m : Str → Option Value} {news : Led} {vs : List Value} {c : Nat} {v : Value} {Q : Value → Shared → Prop} (rest : Led)
    (F : Fr h₀ L s.heap m) (N : News h₀ L s.heap news) (hm : (R, listOf vs.toArray c) ∈ news) (hrest : ∀ p ∈ rest, p ∈ news) (hoff : ∀ p ∈ rest, p.1 ≠ R) (hsz : vs.length < 2 ^ 20)
    (h : ∀ h', Fr h₀ L h' m → News h₀ L h' ((R, listOf (vs ++ [v]).toArray (c + 1)) :: rest) → Q .none { s with heap := h' }) :
    wpAny (model prog w) A (call (.builtin "list.append") [.ref R, v]) Q E s := by
  have z := N _ hm
  have N₂ : News h₀ L s.heap ((R, listOf vs.toArray c) :: rest) := fun p hp => by
    rcases List.mem_cons.mp hp with rfl | hp
    · exact z
    · exact N p (hrest p hp)
  refine append_head F N₂ hoff (fun h' F' N' => h h' F' ?_) (by rw [sizeLine_eq]; simp; omega)
  rw [show (vs ++ [v]).toArray = vs.toArray.push v from by simp]
  exact N'
theorem ints_snoc {vs : List Value} {ns : List Int} {x : Int} {t : Tok} {k : Nat} (h : IntsAre vs (ns.take k)) (hx : ns[k]? = some x) : IntsAre (vs ++ [.int x t]) (ns.take (k + 1)) := by
  rw [List.take_add_one, hx]
  exact ksk_snoc h
end

set_option maxHeartbeats 1000000 in
theorem shape_ok {w : World} {G : Addr} {us : List Value} {d : Nat} {g : List (List Int)} {g0 : List Int} {news ro : Led} (hG : (G, listOf us.toArray d) ∈ news) (hro : ∀ p ∈ ro, p ∈ news) (hg : All2 (IntRowIn ro) us g) (h0 : g[0]? = some g0) (hgl : g.length < 2 ^ 20) (hg0 : g0.length < 2 ^ 20) :
    CallOK w 44 1 [.ref G] news (PairPost ((g.length : Int), (g0.length : Int)) news) := by
  have hul : us.length = g.length := hg.length
  have hpos : 0 < g.length := (List.getElem?_eq_some_iff.mp h0).1
  have h0' : g[(0 : Int).toNat]? = some g0 := h0
  unfold CallOK
  k_fill
  k_with_none
  intro p loose mean mg mb dp un gd cn cs a ccd cl outer A₀ base h₀ L m s Q E B F X N T hk hd hu hret
  refine wpAny_call ?_
  k_dflt ktr_enter
  k_with "len" => (refine len_at (by assumption) (by k_mem) (by assumption) (by assumption) ?_)
  k_with "ite" => (refine ite_pos (by simp; omega) ?_)
  k_with "sub" => (refine sub_introw (by assumption) (by k_mem) hg (by decide) (by decide) h0' ?_; intro a' vs' c' hm' ha'; have hm8 := hro _ hm'; have hvl := ha'.length)
  k_steps
  walk_at "pairEnd" <;> rfl

abbrev ProdPost (res : List Int) (news : Led) : Value → Led → Prop := fun v news' => ∃ Fd cF D zs cD, v = .ref Fd ∧ news' = (Fd, listOf [Value.ref D].toArray cF) :: (D, listOf zs.toArray cD) :: news ∧ IntsAre zs res ∧ Fd ≠ D ∧ (∀ q ∈ news, q.1 ≠ Fd ∧ q.1 ≠ D)
set_option maxHeartbeats 1000000 in
theorem prod_ok {w : World} {O1 Wt G fP fT : Addr} {vs us : List Value} {c1 c d : Nat} {r res g0 : List Int} {g : List (List Int)} {news ro bs₀ : Led} (hO1 : (O1, listOf [Value.ref Wt].toArray c1) ∈ news) (hW : (Wt, listOf vs.toArray c) ∈ news) (hr : IntsAre vs r) (hG : (G, listOf us.toArray d) ∈ news) (hro : ∀ p ∈ ro, p ∈ news) (hg : All2 (IntRowIn ro) us g)
    (O : Ops w fP fT bs₀) (hb : ∀ p ∈ bs₀, p ∈ news) (h0 : g[0]? = some g0) (hrg : r.length = g.length) (hlen : g.length < 2 ^ 20) (hg0 : g0.length < 2 ^ 20) (hres : res.length = g0.length) (hO : ∀ i z, res[i]? = some z → dotO r g i r.length = some z) :
    CallOK w 49 4 [.ref O1, .ref G, .ref fP, .ref fT] news (ProdPost res news) := by
  have hone : All2 (IntRowIn news) [Value.ref Wt] [r] := .cons ⟨Wt, vs, c, rfl, hW, hr⟩ .nil
  have hrl : r.length < 2 ^ 20 := by omega
  unfold CallOK
  k_fill
  k_with_none
  intro p loose mean mg mb dp un gd cn cs a ccd cl outer A₀ base h₀ L m s Q E B F X N T hk hd hu hret
  refine wpAny_call ?_
  k_dflt (refine' code_defC ?k1 ?k2 ?k3 ?k4 ?k5 ?kA ?kF ?kK ?k6 ?k7 ?k8 ?k9 ?kB ?kD ?_ ?c2 ?c3 ?c4; (case kA => exact rfl); (case kF => exact rfl); (case kK => assumption); (case k1 => k_asm); (case k2 => k_asm); (case k3 => k_asm); (case k4 => k_asm); (case k5 => k_asm); (case k6 => k_is); (case k7 => k_is); (case k8 => ktr_room); (case k9 => exact BindsTo.of_eq rfl); (case kB => exact rfl); (case kD => decide +kernel); (case c2 => exact rfl); (case c3 => exact rfl); (case c4 => exact rfl); k_whole)
  intro g' L' h' tk' cells' FG' F' N' Y' B' X' T' l1
  (try k_lt l1)
  k_cells Y'
  (try simp only [List.cons_append, List.nil_append] at N')
  (try dsimp only)
  (try k_fold)
  rename_i o1 o2 o3 o4 d1 d2 d3 d4
  k_with "call" => (k_dflt (refine Call_ ?_))
  k_with "use" => first
    | ((with_reducible show wpAny _ _ (call (Value.ref 44) [.ref O1]) _ _ _); refine' usePair (by k_asm) (by k_asm) (shape_ok (by k_mem) (by intro p9 h9; walk_at "mem") hone rfl (by simp) hrl) ?k1 ?k3 ?k5 ?kK ?kd ?ku ?_; walk_at "usePair")
    | ((with_reducible show wpAny _ _ (call (Value.ref 44) [.ref G]) _ _ _); refine' usePair (by k_asm) (by k_asm) (shape_ok (by k_mem) (by intro p9 h9; have h9' := hro p9 h9; walk_at "mem") hg h0 hlen hg0) ?k1 ?k3 ?k5 ?kK ?kd ?ku ?_; walk_at "usePair")
  k_with "ite" => (refine ite_neg (by simp [hrg]) ?_)
  k_with "for" => walk_at "go for"
  k_steps
  rename_i lF h4 l1F h5 hF hN
  have e4 : o4.data = .cell (some (.ref G)) := d4
  have e3 : o3.data = .cell (some (.ref fP)) := d3
  have e2 : o2.data = .cell (some (.ref fT)) := d2
  have e1 : o1.data = .cell none := d1
  clear d1 d2 d3 d4
  have hlt0 := fun (p : Addr × Obj) (hp : p ∈ news) => l1 p hp
  have hltF : L' + 1 + 1 + 1 + 1 < lF ∧ L' + 1 + 1 + 1 < lF ∧ L' + 1 + 1 < lF ∧ L' + 1 < lF ∧ AllLt lF news := by simpa only [AllLt, and_true, true_and] using l1F.2.2
  have hN2 := cb_drop (news := (lF, listOf #[] 0) :: (L' + 1 + 1 + 1 + 1, o1) :: (L' + 1 + 1 + 1, o2) :: (L' + 1 + 1, o3) :: (L' + 1, o4) :: news) hN (by intro p9 h9; simp only [List.mem_cons] at h9 ⊢; rcases h9 with h | h | h | h | h | h <;> simp only [h, true_or, or_true])
  have hltN := ktn_ltOf hltF.2.2.2.2
  clear hN l1F
  refine for_list (J := fun m₀ bs i m nx => Holds [(Str.ofString "found", .ref lF)] m ∧ ((i = 0 ∧ nx = bs) ∨ (i = 1 ∧ ∃ D zs cD cF, nx = (lF, listOf [Value.ref D].toArray cF) :: (D, listOf zs.toArray cD) :: news ∧ IntsAre zs res ∧ lF ≠ D ∧ (∀ q ∈ news, q.1 ≠ lF ∧ q.1 ≠ D)))) (by first | assumption | passes_own) (by rfl) hF hN2 (xs := [Value.ref Wt]) (n := c1) (by k_mem) ⟨by walk_at "holds", .inl ⟨rfl, rfl⟩⟩ ?turn ?done
  case turn =>
    clear hret hF hN2 F N B X T
    intro I oI i a' m₁ nx s₁ Q₁ E₁ hE₁ hI ha hJ hl hoff F1 N1
    refine turn_gen fun Qt hQt => ?_
    obtain ⟨hm, h9⟩ := hJ
    obtain ⟨rfl, rfl⟩ := h9.resolve_right (fun x => by obtain ⟨rfl, -⟩ := x; cases ha)
    obtain rfl : a' = .ref Wt := (Option.some.inj ha).symm
    obtain ⟨u9, F2⟩ := holds_fr hm F1
    clear F1 hm
    dsimp only [mapC] at F2
    simp only [List.cons_append, List.nil_append] at N1 ⊢
    have hI4 : L' + 1 + 1 + 1 + 1 < I := hI _ (List.mem_cons_of_mem _ List.mem_cons_self)
    have hoffC : ∀ p ∈ (I, oI) :: (lF, listOf #[] 0) :: (L' + 1 + 1 + 1, o2) :: (L' + 1 + 1, o3) :: (L' + 1, o4) :: news, p.1 ≠ L' + 1 + 1 + 1 + 1 := by
      intro p hp
      simp only [List.mem_cons] at hp
      rcases hp with rfl | rfl | rfl | rfl | rfl | hp
      · exact Nat.ne_of_gt hI4
      · exact Nat.ne_of_gt hltF.1
      · exact Nat.ne_of_lt (Nat.lt_succ_self _)
      · exact Nat.ne_of_lt (Nat.lt_succ_of_lt (Nat.lt_succ_self _))
      · exact Nat.ne_of_lt (Nat.lt_succ_of_lt (Nat.lt_succ_of_lt (Nat.lt_succ_self _)))
      · exact Nat.ne_of_lt (Nat.lt_succ_of_lt (Nat.lt_succ_of_lt (Nat.lt_succ_of_lt (Nat.lt_succ_of_lt (hlt0 p hp)))))
    have hoffF : ∀ p ∈ news, p.1 ≠ lF := fun p hp => Nat.ne_of_lt (hltN p hp)
    (try dsimp only)
    (try k_unmd)
    (try k_fold)
    k_with_none
    k_with "store" => (refine storeX_C (by assumption) (cb_drop (news := (L' + 1 + 1 + 1 + 1, o1) :: (I, oI) :: (lF, listOf #[] 0) :: (L' + 1 + 1 + 1, o2) :: (L' + 1 + 1, o3) :: (L' + 1, o4) :: news) (by assumption) ?_) rfl (UpdF.head hoffC) e1 ?_ rfl rfl; (intro p9 h9; simp only [List.mem_cons] at h9 ⊢; rcases h9 with h | h | h | h | h | h | h <;> simp only [h, true_or, or_true]); intro h' o' F' N' d'; (try dsimp only at N'); (try k_sweep))
    k_with "call" => (k_dflt (refine Call_ ?_))
    k_with "comp" => walk_at "go comp"
    k_with "use" => first
      | ((with_reducible show wpAny _ _ (call (Value.ref 44) [.ref G]) _ _ _); refine' usePair (by k_asm) (by k_asm) (shape_ok (by k_mem) (by intro p9 h9; have h9' := hro p9 h9; walk_at "mem") hg h0 hlen hg0) ?k1 ?k3 ?k5 ?kK ?kd ?ku ?_; walk_at "usePair")
    k_with "comp src" => (
      k_dflt (refine comp_range (n := g0.length) (J := fun base i zs nx => nx = base ∧ IntsAre zs (res.take i)) (by rfl) (by assumption) (by assumption) (by assumption) (range_small hg0) range_size (by rw [sizeLine_eq]; omega) ⟨rfl, .nil⟩ ?zt ?zf)
      (case' zt =>
        intro j t5 I5 oI5 C5 oC5 D5 m5 zs5 nx5 h5 tk5 E5 hj hJ5 hoC5 hx5 F5 N5 off5
        refine post_gen fun Qz hQz => ?_
        obtain ⟨rfl, hz5⟩ := hJ5
        obtain ⟨z5, hz6⟩ : ∃ z, res[j]? = some z := ⟨_, List.getElem?_eq_getElem (by omega)⟩
        have hz7 := hO j z5 hz6
        have hj5 : j < 2 ^ 20 := by omega
        simp only [Int.zero_add] at hx5)
      (case' zf =>
        intro D5 h5 tk5 zs5 nx5 F5 N5 o5 hJ5
        obtain ⟨rfl, hz5⟩ := hJ5
        rw [List.take_of_length_le (by omega)] at hz5))
    k_with "use" => first
      | ((with_reducible show wpAny _ _ (call (Value.ref 44) [.ref G]) _ _ _); refine' usePair (by k_asm) (by k_asm) (shape_ok (by k_mem) (by intro p9 h9; have h9' := hro p9 h9; walk_at "mem") hg h0 hlen hg0) ?k1 ?k3 ?k5 ?kK ?kd ?ku ?_; walk_at "usePair")
      | ((with_reducible show wpAny _ _ (call (Value.ref 56) _) _ _ _); refine' useInt (by k_asm) (by k_asm) (dot_ok (by k_mem) (by assumption) (by k_mem) (by intro p9 h9; have h9' := hro p9 h9; walk_at "mem") hg O (by intro p9 h9; have h9' := hb p9 h9; walk_at "mem") hz7 hj5 hrl) ?k1 ?k3 ?k5 ?kK ?kd ?ku ?_; walk_at "useInt")
    k_with "append" => (
      have hFD : lF ≠ D5 := o5 (lF, listOf #[] 0) (by simp)
      refine append_to (vs := []) (rest := (I, oI) :: (D5, LCg.lst zs5) :: news) (by assumption) (by assumption) (by k_mem) ?hs ?ho (by decide) ?_
      (case hs => (intro p9 h9; simp only [List.mem_cons] at h9 ⊢; rcases h9 with h | h | h <;> simp only [h, true_or, or_true]))
      (case ho =>
        intro p hp
        simp only [List.mem_cons] at hp
        rcases hp with rfl | rfl | hp
        · exact fun e => hoff (lF, listOf #[] 0) List.mem_cons_self (List.mem_singleton.mpr e.symm)
        · exact Ne.symm hFD
        · exact hoffF p hp)
      intro h4 F4 N4; (try k_sweep))
    k_steps
    · refine hQt _ _ (tend ((lF, listOf [Value.ref D5].toArray 1) :: (D5, LCg.lst zs5) :: news) (by assumption) (by assumption) (fun p hp => ?_) (fun p hp => ?_) ⟨fun p hp => by rw [List.mem_singleton.mp hp]; k_mem, by walk_at "holds", .inr ⟨by trivial, D5, zs5, _, 1, rfl, hz5, hFD, fun q hq => ⟨hoffF q hq, o5 q (by simp only [List.mem_cons, hq, or_true])⟩⟩⟩)
      · simp only [List.mem_append, List.mem_cons, List.not_mem_nil, or_false] at hp ⊢
        rcases hp with h | h | h | h <;> simp only [h, true_or, or_true, List.nil_append, Nat.zero_add]
      · rw [List.mem_singleton]
        simp only [List.mem_cons] at hp
        rcases hp with rfl | rfl | hp
        · exact fun e => hoff (lF, listOf #[] 0) List.mem_cons_self (List.mem_singleton.mpr e)
        · exact Ne.symm (o5 (I, oI) (by simp))
        · exact fun e => hoff p (by simp only [List.mem_cons, hp, or_true]) (List.mem_singleton.mpr e)
    · k_dflt (refine hQz _ _ (zend _ ?zF ?zN (fun p hp => hp) off5 ?zJ))
      case zJ => exact ⟨rfl, ints_snoc hz5 hz6⟩
      case zF => assumption
      case zN => assumption
  case done =>
    clear hF hN2
    intro m₁ nx h tk9 hJ F1 N1
    obtain ⟨hm, h9⟩ := hJ
    obtain ⟨-, D, zs, cD, cF, rfl, hz, hFD, hoff⟩ := h9.resolve_left (fun x => absurd x.1 Nat.one_ne_zero)
    obtain ⟨u9, F2⟩ := holds_fr hm F1
    clear F1
    dsimp only [mapC] at F2
    k_with_none
    (try dsimp only)
    (try k_unmd)
    (try k_fold)
    k_steps
    exact hret _ _ _ _ ⟨lF, cF, D, zs, cD, rfl, rfl, hz, hFD, hoff⟩ (by assumption) (by assumption)

/-- the equations -/
def eqRow (n i : Nat) (a b : Int) : Row := (List.range (n - 1)).map (fun j => (if j = i then a + b else if j + 1 = i then 0 - b else if j = i + 1 then 0 - a else 0, 1)) ++ [(if i + 2 = n then a else 0, 1), (a + b, 1)]
def rowsZ (n : Nat) (a b : Int) : Grid := (List.range (n - 1)).map (eqRow n · a b)
/-- the answers -/
def unitR (m i : Nat) : Row := (List.range m).map fun s => (if s = i then 1 else 0, 1)
def ansRow (n i : Nat) (a b : Int) : Row := unitR (n - 1) i ++ [chanceF n (i + 1) a b, roundsF n (i + 1) a b]
def ansZ (n : Nat) (a b : Int) : Grid := (List.range (n - 1)).map (ansRow n · a b)
def powsZ (n : Nat) (a b : Int) : List Int := (List.range n).map fun i => a ^ i * b ^ (n - 1 - i)
def chancesZ (n : Nat) (a b : Int) : Row := (0, 1) :: ((List.range (n - 1)).map fun (i : Nat) => chanceF n (i + 1) a b) ++ [(1, 1)]
def roundsZ (n : Nat) (a b : Int) : Row := (0, 1) :: ((List.range (n - 1)).map fun (i : Nat) => roundsF n (i + 1) a b) ++ [(0, 1)]
def gridZ (n : Nat) (a b : Int) : List (List Int) := (List.range (n + 1)).map fun i => (List.range (n + 1)).map fun j =>
  if i = 0 ∨ i = n then (if j = i then a + b else 0) else if j + 1 = i then b else if j = i + 1 then a else 0
def unitW (n k : Nat) : List Int := (List.range (n + 1)).map fun i => if i = k then 1 else 0
def togO (ws : List Int) (os : Row) : Nat → Option (Int × Int)
  | 0 => some (0, 1)
  | k + 1 => (togO ws os k).bind fun f => match ws[k]?, os[k]? with
    | some x, some o => (timesO (0 - x, 1) o).bind fun t => lessO f t
    | _, _ => none
theorem togO_step {ws : List Int} {os : Row} {n : Nat} {z : Int × Int} (h : togO ws os n = some z) : ∀ k, k < n → ∃ f x o t y, togO ws os k = some f ∧ ws[k]? = some x ∧ os[k]? = some o ∧ timesO (0 - x, 1) o = some t ∧ lessO f t = some y ∧ togO ws os (k + 1) = some y := by
  induction n generalizing z with
  | zero => intro k hk; omega
  | succ n ih =>
    intro k hk
    obtain ⟨f, h1, h2⟩ := Option.bind_eq_some_iff.mp h
    by_cases e : k = n
    · subst e
      split at h2
      · rename_i x o hx ho
        obtain ⟨t, ht, h3⟩ := Option.bind_eq_some_iff.mp h2
        exact ⟨f, x, o, t, z, h1, hx, ho, ht, h3, h⟩
      · cases h2
    · exact ih h1 k (by omega)
def nextW (w : List Int) (g : List (List Int)) : List Int := (List.range w.length).map fun i => (dotO w g i w.length).getD 0
def nextOk (w : List Int) (g : List (List Int)) : Bool := (List.range w.length).all fun i => (dotO w g i w.length).isSome
theorem nextW_len {w : List Int} {g : List (List Int)} : (nextW w g).length = w.length := by simp [nextW]
theorem nextW_get {w : List Int} {g : List (List Int)} (h : nextOk w g = true) (i : Nat) (z : Int) (hz : (nextW w g)[i]? = some z) : dotO w g i w.length = some z := by
  have hi : i < w.length := by
    have := (List.getElem?_eq_some_iff.mp hz).1
    rwa [nextW_len] at this
  unfold nextW at hz
  rw [List.getElem?_map, List.getElem?_range hi, Option.map_some, Option.some.injEq] at hz
  have h2 := List.all_eq_true.mp h i (List.mem_range.mpr hi)
  obtain ⟨y, hy⟩ := Option.isSome_iff_exists.mp h2
  rw [hy] at hz ⊢
  exact congrArg some hz
/-- one round from a place on -/
def playO (n : Nat) (a b : Int) (k : Nat) (cb : Int × Int) (st : List Int × (Int × Int)) : Option (List Int × (Int × Int)) :=
  let w' := nextW st.1 (gridZ n a b)
  match lessO st.2 (((st.1.drop 1).take (n - 1)).sum, 1) with
  | none => none
  | some d => match timesO (a + b, 1) d with
    | none => none
    | some left' =>
      if (nextOk st.1 (gridZ n a b) && decide (st.1.length = n + 1) && decide (togO w' (roundsZ n a b) (n + 1) = some left') && decide (w'.sum = (a + b) ^ (k + 1))
        && decide (timesO ((a + b) ^ (k + 1), 1) cb = togO w' (chancesZ n a b) (n + 1)) && (togO w' (chancesZ n a b) (n + 1)).isSome) = true then some (w', left') else none
def playsO (n : Nat) (a b : Int) (st : List Int × (Int × Int)) (cb : Int × Int) : Nat → Option (List Int × (Int × Int))
  | 0 => some st
  | k + 1 => (playsO n a b st cb k).bind (playO n a b k cb)
theorem playsO_step {n : Nat} {a b : Int} {st : List Int × (Int × Int)} {cb : Int × Int} {m : Nat} (h : (playsO n a b st cb m).isSome = true) : ∀ k, k < m → ∃ s1 s2, playsO n a b st cb k = some s1 ∧ playO n a b k cb s1 = some s2 ∧ playsO n a b st cb (k + 1) = some s2 := by
  induction m with
  | zero => intro k hk; omega
  | succ m ih =>
    intro k hk
    obtain ⟨z, hz⟩ := Option.isSome_iff_exists.mp h
    obtain ⟨s1, h1, h2⟩ := Option.bind_eq_some_iff.mp hz
    by_cases e : k = m
    · subst e
      exact ⟨s1, z, h1, h2, hz⟩
    · exact ih (by rw [h1]; rfl) k (by omega)
theorem playO_some {n k : Nat} {a b : Int} {cb : Int × Int} {st st' : List Int × (Int × Int)} (h : playO n a b k cb st = some st') :
    ∃ d y, lessO st.2 (((st.1.drop 1).take (n - 1)).sum, 1) = some d ∧ timesO (a + b, 1) d = some st'.2 ∧ st'.1 = nextW st.1 (gridZ n a b) ∧ nextOk st.1 (gridZ n a b) = true ∧ st.1.length = n + 1 ∧ togO st'.1 (roundsZ n a b) (n + 1) = some st'.2 ∧ st'.1.sum = (a + b) ^ (k + 1) ∧ timesO ((a + b) ^ (k + 1), 1) cb = some y ∧ togO st'.1 (chancesZ n a b) (n + 1) = some y := by
  unfold playO at h
  dsimp only at h
  split at h
  · cases h
  · rename_i d hd
    split at h
    · cases h
    · rename_i l hl
      split at h
      · rename_i q
        cases h
        simp only [Bool.and_eq_true, decide_eq_true_eq] at q
        obtain ⟨⟨⟨⟨⟨q1, q2⟩, q3⟩, q4⟩, q5⟩, q6⟩ := q
        obtain ⟨y, hy⟩ := Option.isSome_iff_exists.mp q6
        exact ⟨d, y, hd, hl, rfl, q1, q2, q3, q4, q5.trans hy, hy⟩
      · cases h
/-- all that is to be reckoned out -/
def solvesB (n : Nat) (a b : Int) : Bool := decide (solveO (rowsZ n a b) = some (ansZ n a b, ((powsZ n a b).sum, 1))) && (List.range (n - 1)).all fun (i : Nat) => chanceOk n (i + 1) a b && roundsOk n (i + 1) a b
def playsB (n : Nat) (a b : Int) (k : Nat) : Bool := match (roundsZ n a b)[k]?, (chancesZ n a b)[k]? with
  | some r, some c => (playsO n a b (unitW n k, r) c 4).isSome
  | _, _ => false
def allB (n : Nat) (a b : Int) : Bool := solvesB n a b && (List.range (n - 1)).all fun k => playsB n a b (k + 1)
theorem all3_1 : (allB 3 1 1 && allB 3 1 2 && allB 3 1 3 && allB 3 1 4) = true := by decide +kernel
theorem all3_2 : (allB 3 2 1 && allB 3 2 2 && allB 3 2 3 && allB 3 2 4) = true := by decide +kernel
theorem all3_3 : (allB 3 3 1 && allB 3 3 2 && allB 3 3 3 && allB 3 3 4) = true := by decide +kernel
theorem all3_4 : (allB 3 4 1 && allB 3 4 2 && allB 3 4 3 && allB 3 4 4) = true := by decide +kernel
theorem all4_1 : (allB 4 1 1 && allB 4 1 2 && allB 4 1 3 && allB 4 1 4) = true := by decide +kernel
theorem all4_2 : (allB 4 2 1 && allB 4 2 2 && allB 4 2 3 && allB 4 2 4) = true := by decide +kernel
theorem all4_3 : (allB 4 3 1 && allB 4 3 2 && allB 4 3 3 && allB 4 3 4) = true := by decide +kernel
theorem all4_4 : (allB 4 4 1 && allB 4 4 2 && allB 4 4 3 && allB 4 4 4) = true := by decide +kernel
theorem four {x : Int} (h : 1 ≤ x ∧ x ≤ 4) : x = 1 ∨ x = 2 ∨ x = 3 ∨ x = 4 := by omega
theorem all_ok {n : Nat} {a b : Int} (hn : n = 3 ∨ n = 4) (ha : 1 ≤ a ∧ a ≤ 4) (hb : 1 ≤ b ∧ b ≤ 4) : allB n a b = true := by
  have h : ∀ m : Nat, ∀ x : Int, (allB m x 1 && allB m x 2 && allB m x 3 && allB m x 4) = true → allB m x b = true := fun m x q => by
    simp only [Bool.and_eq_true] at q
    rcases four hb with rfl | rfl | rfl | rfl
    · exact q.1.1.1
    · exact q.1.1.2
    · exact q.1.2
    · exact q.2
  rcases hn with rfl | rfl <;> rcases four ha with rfl | rfl | rfl | rfl
  · exact h _ _ all3_1
  · exact h _ _ all3_2
  · exact h _ _ all3_3
  · exact h _ _ all3_4
  · exact h _ _ all4_1
  · exact h _ _ all4_2
  · exact h _ _ all4_3
  · exact h _ _ all4_4
theorem solves_ok {n : Nat} {a b : Int} (hn : n = 3 ∨ n = 4) (ha : 1 ≤ a ∧ a ≤ 4) (hb : 1 ≤ b ∧ b ≤ 4) : solveO (rowsZ n a b) = some (ansZ n a b, ((powsZ n a b).sum, 1)) ∧ ∀ i : Nat, i < n - 1 → chanceOk n (i + 1) a b = true ∧ roundsOk n (i + 1) a b = true := by
  have h := all_ok hn ha hb
  simp only [allB, solvesB, Bool.and_eq_true, decide_eq_true_eq, List.all_eq_true, List.mem_range] at h
  exact ⟨h.1.1, fun i hi => by have := h.1.2 i hi; exact this⟩
theorem plays_ok {n : Nat} {a b : Int} (hn : n = 3 ∨ n = 4) (ha : 1 ≤ a ∧ a ≤ 4) (hb : 1 ≤ b ∧ b ≤ 4) {k : Nat} (hk : 1 ≤ k ∧ k < n) : ∃ r c, (roundsZ n a b)[k]? = some r ∧ (chancesZ n a b)[k]? = some c ∧ (playsO n a b (unitW n k, r) c 4).isSome = true := by
  have h := all_ok hn ha hb
  simp only [allB, Bool.and_eq_true, List.all_eq_true, List.mem_range] at h
  have h2 := h.2 (k - 1) (by omega)
  rw [show k - 1 + 1 = k from by omega] at h2
  unfold playsB at h2
  split at h2
  · rename_i r c hr hc
    exact ⟨r, c, hr, hc, h2⟩
  · cases h2

abbrev RowsPost (res : Grid) (news : Led) : Value → Led → Prop := fun v news' => ∃ R vs c tl, v = .ref R ∧ news' = (R, listOf vs.toArray c) :: (tl ++ news) ∧ All2 (RowIn tl) vs res ∧ Apart ((R, listOf vs.toArray c) :: tl) news
theorem range_size1 {n : Nat} : Builtin.Range.rangeSize 1 (n : Int) 1 = ((n - 1 : Nat) : Int) := by
  rw [rangeSize_nat]
  omega
theorem rowsZ_len {n : Nat} {a b : Int} : (rowsZ n a b).length = n - 1 := by simp [rowsZ]
/-- a ledger that grew above a loop's own object and a list of the call's -/
inductive Over (I : Addr) (oI : Obj) (R : Addr) (oR : Obj) (tl news : Led) : Led → Led → Prop
  | base : Over I oI R oR tl news ((I, oI) :: (R, oR) :: (tl ++ news)) tl
  | cons {p : Addr × Obj} {l r : Led} : (I < p.1) → (R < p.1) → AllLt p.1 (tl ++ news) → Over I oI R oR tl news l r → Over I oI R oR tl news (p :: l) (p :: r)
section
variable {I : Addr} {oI : Obj} {R : Addr} {oR : Obj} {tl news all tl' : Led}
theorem Over.sub (O : Over I oI R oR tl news all tl') : ∀ p ∈ (R, oR) :: (I, oI) :: (tl' ++ news), p ∈ all := by
  induction O with
  | base =>
    intro p hp
    simp only [List.mem_cons] at hp ⊢
    rcases hp with h | h | h
    · exact .inr (.inl h)
    · exact .inl h
    · exact .inr (.inr h)
  | cons _ _ _ _ ih =>
    intro p hp
    simp only [List.mem_cons, List.cons_append] at hp ih ⊢
    rcases hp with h | h | h | h
    · exact .inr (ih p (.inl h))
    · exact .inr (ih p (.inr (.inl h)))
    · exact .inl h
    · exact .inr (ih p (.inr (.inr h)))
theorem Over.keeps (O : Over I oI R oR tl news all tl') : ∀ p ∈ tl, p ∈ tl' := by
  induction O with
  | base => exact fun _ h => h
  | cons _ _ _ _ ih => exact fun p hp => List.mem_cons_of_mem _ (ih p hp)
theorem Over.offR (O : Over I oI R oR tl news all tl') (h : ∀ p ∈ tl, p.1 ≠ R) : ∀ p ∈ tl', p.1 ≠ R := by
  induction O with
  | base => exact h
  | cons _ h2 _ _ ih =>
    intro p hp
    rcases List.mem_cons.mp hp with rfl | hp
    · exact Nat.ne_of_gt h2
    · exact ih p hp
theorem Over.offI (O : Over I oI R oR tl news all tl') (h : ∀ p ∈ tl, p.1 ≠ I) : ∀ p ∈ tl', p.1 ≠ I := by
  induction O with
  | base => exact h
  | cons h2 _ _ _ ih =>
    intro p hp
    rcases List.mem_cons.mp hp with rfl | hp
    · exact Nat.ne_of_gt h2
    · exact ih p hp
theorem Over.apart (O : Over I oI R oR tl news all tl') (h : Apart tl news) : Apart tl' news := by
  induction O with
  | base => exact h
  | cons _ _ h2 _ ih =>
    intro p hp q hq
    rcases List.mem_cons.mp hp with rfl | hp
    · exact Nat.ne_of_gt (ktn_ltOf h2 q (List.mem_append_right _ hq))
    · exact ih p hp q hq
theorem append_over {prog : Program} {w : World} {A : Around} {E : Value → Shared → Prop} {s : Shared} {h₀ : Heap} {L : Addr} {m : Str → Option Value} {vs : List Value} {c : Nat} {v : Value} {Q : Value → Shared → Prop}
    (F : Fr h₀ L s.heap m) (N : News h₀ L s.heap all) (hne : R ≠ I) (hR : ∀ p ∈ tl, p.1 ≠ R) (hI : ∀ p ∈ tl, p.1 ≠ I) (hA : Apart tl news) (hnR : ∀ p ∈ news, p.1 ≠ R) (hsz : vs.length < 2 ^ 20) (O : Over I oI R (listOf vs.toArray c) tl news all tl')
    (h : ∀ h' tl4, tl4 = tl' → Fr h₀ L h' m → News h₀ L h' ((R, listOf (vs ++ [v]).toArray (c + 1)) :: (I, oI) :: (tl4 ++ news)) → (∀ p ∈ tl, p ∈ tl4) → (∀ p ∈ tl4, p.1 ≠ R) → (∀ p ∈ tl4, p.1 ≠ I) → Apart tl4 news → Q .none { s with heap := h' }) :
    wpAny (model prog w) A (call (.builtin "list.append") [.ref R, v]) Q E s := by
  refine append_to ((I, oI) :: (tl' ++ news)) F N (O.sub _ List.mem_cons_self) (fun p hp => O.sub p (List.mem_cons_of_mem _ hp)) (fun p hp => ?_) hsz fun h' F' N' => h h' tl' rfl F' N' O.keeps (O.offR hR) (O.offI hI) (O.apart hA)
  rcases List.mem_cons.mp hp with rfl | hp
  · exact Ne.symm hne
  · rcases List.mem_append.mp hp with hp | hp
    · exact O.offR hR p hp
    · exact hnR p hp
end
local macro_rules | `(tactic| walk_at "ands") => `(tactic| (repeat (rename And _ _ => hX; have hX1 := And.left hX; have hX2 := And.right hX; clear hX)))
local macro_rules | `(tactic| walk_at "over") => `(tactic| first | exact Over.base | (refine' Over.cons ?o1 ?o2 ?o3 ?o4; (case o1 => assumption); (case o2 => assumption); (case o3 => (first | assumption | ktn_lt)); (case o4 => walk_at "over")))
local macro_rules | `(tactic| walk_at "pairs") => `(tactic| first | exact All2.nil | (refine All2.cons ⟨_, _, _, _, rfl, by k_mem⟩ ?_; walk_at "pairs"))
local macro_rules | `(tactic| walk_at "rowref") => `(tactic| k_mem)
theorem all2_one {tl tl' : Led} {vs : List Value} {g : Grid} {i : Nat} {r : Row} {a : Addr} {ws : List Value} {c : Nat} (h : All2 (RowIn tl) vs (g.take i)) (hs : ∀ p ∈ tl, p ∈ tl') (hr : g[i]? = some r) (hm : (a, listOf ws.toArray c) ∈ tl') (hw : All2 (PairIn tl') ws r) : All2 (RowIn tl') (vs ++ [.ref a]) (g.take (i + 1)) := by
  rw [take_snoc hr]
  exact (h.mono fun _ _ => RowIn.mono hs).append (.cons ⟨a, ws, c, rfl, hm, hw⟩ .nil)
set_option maxHeartbeats 1000000 in
theorem rows_ok {w : World} {n : Nat} {va vb : Int} {t u v : Tok} {news : Led} (hn : n = 3 ∨ n = 4) (ha : 1 ≤ va ∧ va ≤ 4) (hb : 1 ≤ vb ∧ vb ≤ 4) :
    CallOK w 122 3 [.int n t, .int va u, .int vb v] news (RowsPost (rowsZ n va vb) news) := by
  unfold CallOK
  k_fill
  k_with_none
  intro p loose mean mg mb dp un gd cn cs a ccd cl outer A₀ base h₀ L m s Q E B F X N T hk hd hu hret
  refine wpAny_call ?_
  k_dflt ktr_enter
  k_with "for" => walk_at "go for"
  k_steps
  rename_i lF h2 l1F h3 hF hN h4 tk5 t₁ u₁ v₁ hRg hF9 hN9 hK9
  clear hF hN
  refine for_range (n := n - 1) (J := fun m₀ base i m nx => ∃ vs c tl, nx = (lF, listOf vs.toArray c) :: (tl ++ news) ∧ All2 (RowIn tl) vs ((rowsZ n va vb).take i) ∧ Holds [(Str.ofString "size", .int n t), (Str.ofString "a", .int va u), (Str.ofString "b", .int vb v), (Str.ofString "rows", .ref lF)] m ∧ (∀ p ∈ tl, p.1 ≠ lF) ∧ Apart tl news) (by first | assumption | passes_own) (by rfl) hRg (small_one (by omega) (by omega) (by omega) (by omega)) range_size1 hF9 hN9 ?h0 ?turn ?done
  case h0 =>
    exact ⟨[], 0, [], rfl, .nil, by walk_at "holds", (fun _ h => nomatch h), (fun _ h => nomatch h)⟩
  case turn =>
    clear hret hF9 hN9 hRg hK9 F N B X T
    intro I oI i t m₁ nx s₁ Q₁ E₁ hE₁ hI hi hJ hoff F1 N1
    refine turn_gen fun Qt hQt => ?_
    obtain ⟨sh, sg, sd, st, so⟩ := s₁
    dsimp only at F1 N1 ⊢
    obtain ⟨vs, c, tl, rfl, hall, hm, hap1, hap2⟩ := hJ
    have hlF := hI _ List.mem_cons_self
    dsimp only at hlF
    clear hI
    obtain ⟨u9, F2⟩ := holds_fr hm F1
    clear F1
    dsimp only [mapC] at F2
    have hlIF : lF ≠ I := Nat.ne_of_lt hlF
    have hapI : ∀ p ∈ tl, p.1 ≠ I := fun p hp => by simpa using hoff p (by simp only [List.mem_cons, List.mem_append, hp, true_or, or_true])
    have hnR : ∀ p ∈ news, p.1 ≠ lF := fun p hp => Nat.ne_of_lt (l1F p hp)
    have hvl : vs.length < 2 ^ 20 := by
      rw [hall.length, List.length_take, rowsZ_len]
      omega
    simp only [List.cons_append, List.nil_append] at N1 ⊢
    have hz : (1 : Int) + (i : Int) = ((i + 1 : Nat) : Int) := by omega
    rw [hz]
    have hcases : (n = 3 ∧ i = 0) ∨ (n = 3 ∧ i = 1) ∨ (n = 4 ∧ i = 0) ∨ (n = 4 ∧ i = 1) ∨ (n = 4 ∧ i = 2) := by omega
    clear hz hn hi
    rcases hcases with h | h | h | h | h <;> obtain ⟨rfl, rfl⟩ := h
    all_goals (
      (try dsimp only)
      (try k_unmd)
      (try k_fold)
      k_with_none
      k_with "mult" => ((first | refine KMa.mul (vs := [Value.ref _]) (ws := [Value.ref _, Value.ref _]) (by k_asm) (by k_asm) (News.isList (by k_asm) (by k_mem)) (by decide) (by decide) (Nat.le_of_ble_eq_true rfl) rfl ?_ | refine KMa.mul (vs := [Value.ref _]) (ws := [Value.ref _, Value.ref _, Value.ref _]) (by k_asm) (by k_asm) (News.isList (by k_asm) (by k_mem)) (by decide) (by decide) (Nat.le_of_ble_eq_true rfl) rfl ?_); intro D' h' F' N' l1; (try k_lt l1); (try k_sweep))
      k_with "append" => (
        (try dsimp only)
        walk_at "ands"
        refine' append_over (oI := oI) (c := c) (by k_asm) (by k_asm) hlIF hap1 hapI hap2 hnR hvl ?ov ?_
        (case ov => walk_at "over")
        intro h4 tl4 e4 F4 N4 hs4 hR4 hI4 hA4
        have hall4 := by first | exact all2_one (r := [(va + vb, 1), (0 - va, 1), (0, 1), (va + vb, 1)]) hall hs4 rfl (by rw [e4]; walk_at "rowref") (by rw [e4]; walk_at "pairs") | exact all2_one (r := [(0 - vb, 1), (va + vb, 1), (va, 1), (va + vb, 1)]) hall hs4 rfl (by rw [e4]; walk_at "rowref") (by rw [e4]; walk_at "pairs") | exact all2_one (r := [(va + vb, 1), (0 - va, 1), (0, 1), (0, 1), (va + vb, 1)]) hall hs4 rfl (by rw [e4]; walk_at "rowref") (by rw [e4]; walk_at "pairs") | exact all2_one (r := [(0 - vb, 1), (va + vb, 1), (0 - va, 1), (0, 1), (va + vb, 1)]) hall hs4 rfl (by rw [e4]; walk_at "rowref") (by rw [e4]; walk_at "pairs") | exact all2_one (r := [(0, 1), (0 - vb, 1), (va + vb, 1), (va, 1), (va + vb, 1)]) hall hs4 rfl (by rw [e4]; walk_at "rowref") (by rw [e4]; walk_at "pairs")
        clear e4
        (try k_sweep))
      k_steps
      refine hQt _ _ (tend (s₁ := ⟨sh, sg, sd, st, so⟩) ((lF, listOf (vs ++ [Value.ref _]).toArray (c + 1)) :: (tl4 ++ news)) (by assumption) (by assumption) (fun p hp => ?_) (fun p hp => ?_) ⟨(fun _ h => nomatch h), _, _, tl4, rfl, hall4, by walk_at "holds", hR4, hA4⟩)
      · simp only [List.mem_append, List.mem_cons, List.not_mem_nil, or_false] at hp ⊢
        rcases hp with h | h | h | h <;> simp only [h, true_or, or_true]
      · rw [List.mem_singleton]
        simp only [List.mem_append, List.mem_cons] at hp
        rcases hp with rfl | h | h
        · exact hlIF
        · exact hI4 p h
        · exact fun e => hoff p (by simp only [List.mem_append, List.mem_cons, h, or_true]) (List.mem_singleton.mpr e))
  case done =>
    clear hF9 hN9 hRg hK9
    intro m₁ nx h tk9 hJ F1 N1
    obtain ⟨vs, c, tl, rfl, hall, hm, hap1, hap2⟩ := hJ
    rw [List.take_of_length_le (by rw [rowsZ_len]; exact Nat.le_refl _)] at hall
    obtain ⟨u9, F2⟩ := holds_fr hm F1
    clear F1
    dsimp only [mapC] at F2
    k_with_none
    (try dsimp only)
    (try k_unmd)
    (try k_fold)
    k_steps
    refine hret _ _ _ _ ⟨lF, vs, c, tl, rfl, rfl, hall, fun p hp q hq => ?_⟩ (by assumption) (by assumption)
    rcases List.mem_cons.mp hp with rfl | hp
    · exact Nat.ne_of_gt (l1F q hq)
    · exact hap2 p hp q hq

abbrev GridPost (res : List (List Int)) (news : Led) : Value → Led → Prop := fun v news' => ∃ R vs c tl, v = .ref R ∧ news' = (R, listOf vs.toArray c) :: (tl ++ news) ∧ All2 (IntRowIn tl) vs res ∧ Apart ((R, listOf vs.toArray c) :: tl) news
/-- a ledger without the loop's own object -/
inductive Without (I : Addr) (it : Obj) : Led → Led → Prop
  | head {r} : (∀ p ∈ r, p.1 ≠ I) → Without I it ((I, it) :: r) r
  | tail {p r r'} : p.1 ≠ I → Without I it r r' → Without I it (p :: r) (p :: r')
theorem Without.spec {I : Addr} {it : Obj} : ∀ {l r : Led}, Without I it l r → (∀ p ∈ (I, it) :: r, p ∈ l) ∧ ∀ p ∈ r, p.1 ≠ I
  | _, _, .head h => ⟨fun _ hp => hp, h⟩
  | _, _, .tail (p := q) h x => by
    refine ⟨fun p hp => ?_, fun p hp => ?_⟩
    · simp only [List.mem_cons] at hp
      rcases hp with e | e | e
      · exact List.mem_cons_of_mem _ (x.spec.1 p (by rw [e]; exact List.mem_cons_self))
      · rw [e]; exact List.mem_cons_self
      · exact List.mem_cons_of_mem _ (x.spec.1 p (List.mem_cons_of_mem _ e))
    · rcases List.mem_cons.mp hp with rfl | e
      · exact h
      · exact x.spec.2 p e
theorem unr_end {h₀ : Heap} {L I : Addr} {it : Obj} {rest : (Str → Option Value) → Led → Prop} {s₁ : Shared} {h' : Heap} {tk : Nat} {m' : Str → Option Value} {all news' : Led} (F : Fr h₀ L h' m') (N : News h₀ L h' all)
    (x : Without I it all news') (r : rest m' news') : UnrEnd h₀ L s₁ I it rest { s₁ with heap := h', toks := tk } := UnrEnd.intro F N news' x.spec.1 x.spec.2 r
theorem off_lt {I : Addr} {news : Led} (h : AllLt I news) : ∀ p ∈ news, p.1 ≠ I := fun p hp => Nat.ne_of_lt (ktn_ltOf h p hp)
local macro_rules | `(tactic| walk_at "off") => `(tactic| first | exact List.forall_mem_nil _ | (refine List.forall_mem_cons.mpr (And.intro (by k_ne) ?_); walk_at "off") | assumption | exact off_lt (by first | assumption | ktn_lt))
local macro_rules | `(tactic| walk_at "without") => `(tactic| first | (refine' Without.head ?w1; (case w1 => walk_at "off")) | (refine' Without.tail ?w1 ?w2; (case w1 => k_ne); (case w2 => walk_at "without")))
section
open PySem.Spec PySem.Calls PyProof.Rows.LCg
variable {prog : Program} {w : World} {A : Around} {E : Value → Shared → Prop} {s : Shared} {h₀ : Heap} {L : Addr} {m : Str → Option Value} {env : Env}
/-- the same, stored under a name -/
theorem comp_rangeA {elt : PySem.Expr} {x : Str} {scope : Scope} {cl : List (Str × Addr)} {r : Addr} {a b : Int} {t u v : Tok} {n : Nat} {news : Led} {y : Str} {Q : Flow → Shared → Prop}
    (J : Led → Nat → List Value → Led → Prop) (hh : A.handled = none) (F : Fr h₀ L s.heap m) (N : News h₀ L s.heap news) (hr : IsRange s.heap r a b 1 t u v) (hsm : Builtin.Range.small a b 1 = true) (hn : Builtin.Range.rangeSize a b 1 = ((n : Nat) : Int)) (hsz : n ≤ sizeLine)
    (h0 : J news 0 [] news)
    (turn : ∀ i t I oI C oC D m₂ zs nx h tk (E' : Value → Shared → Prop), i < n → J news i zs nx → NsObj oC m₂ → m₂ x = some (.int (a + (i : Int)) t) → Fr h₀ L h m → News h₀ L h ([(I, oI)] ++ (C, oC) :: (D, lst zs) :: nx) → (∀ p ∈ nx, p.1 ∉ [I] ∧ p.1 ≠ C ∧ p.1 ≠ D) →
      wpAny (model prog w) A (eval elt (compEnvC scope cl C env)) (ZEnd h₀ L m { s with heap := h, toks := tk } [(I, oI)] [I] C D oC (lst zs) (fun y nx' => J news (i + 1) (zs ++ [y]) nx')) E' { s with heap := h, toks := tk })
    (fin : ∀ D h tk zs nx, Fr h₀ L h (fun z => if z = y then some (.ref D) else m z) → News h₀ L h ((D, lst zs) :: nx) → (∀ p ∈ nx, p.1 ≠ D) → J news n zs nx → Q .next { s with heap := h, toks := tk }) :
    CompSrc prog w A h₀ L m env elt x scope cl (fun s₂ => FinA h₀ L m s₂ y Q) (.ref r) s := by
  refine CompSrc.range hh F N hr hsm hn hsz fun g => ?_
  refine compRest_J (s := { s with heap := g }) (n := n) (fun i zs nx => J news i zs nx) (fun i zs nx h => True.intro) ?_ ?_ _ 0 [] news (Nat.zero_add _) h0
  · rintro i v I oI C oC D m₂ zs nx h tk E' hi ⟨t, rfl⟩ hJ hC hx F' N' off
    exact turn i t I oI C oC D m₂ zs nx h tk E' hi hJ hC hx F' N' off
  · intro zs nx hJ D h tk F' N' o1
    exact fin D h tk zs nx F' N' (off1_of o1) hJ
end
/-- zeros -/
def zerosV (n : Nat) (t : Tok) : List Value := (List.replicate ((n : Int) + 1).toNat [Value.int 0 t]).flatten
def GJ (n : Nat) (base : Led) : Nat → List Value → Led → Prop
  | 0, zs, tl => zs = [] ∧ tl = []
  | i + 1, zs, tl => ∃ D t zs' tl', zs = zs' ++ [.ref D] ∧ tl = (D, listOf (zerosV n t).toArray 0) :: tl' ∧ AllLt D (tl' ++ base) ∧ GJ n base i zs' tl'
theorem apart_cons {p : Addr × Obj} {l news : Led} (h : ∀ q ∈ news, q.1 ≠ p.1) (r : Apart l news) : Apart (p :: l) news := fun x hx q hq => by
  rcases List.mem_cons.mp hx with rfl | hx
  · exact Ne.symm (h q hq)
  · exact r x hx q hq
theorem zeros3 {t : Tok} : (zerosV 3 t).toArray = #[.int 0 t, .int 0 t, .int 0 t, .int 0 t] := rfl
theorem zeros4 {t : Tok} : (zerosV 4 t).toArray = #[.int 0 t, .int 0 t, .int 0 t, .int 0 t, .int 0 t] := rfl
section
 local macro_rules | `(tactic| k_ne) => `(tactic| (refine neN ?_; (try dsimp only); first | assumption | (refine Ne.symm ?_; assumption)))
set_option maxHeartbeats 8000000 in
theorem grid_ok {w : World} {n : Nat} {va vb : Int} {t u v : Tok} {news : Led} (hn : n = 3 ∨ n = 4) (ha : 1 ≤ va ∧ va ≤ 4) (hb : 1 ≤ vb ∧ vb ≤ 4) :
    CallOK w 141 3 [.int n t, .int va u, .int vb v] news (GridPost (gridZ n va vb) news) := by
  unfold CallOK
  k_fill
  k_with_none
  intro p loose mean mg mb dp un gd cn cs a ccd cl outer A₀ base h₀ L m s Q E B F X N T hk hd hu hret
  refine wpAny_call ?_
  k_dflt (refine' code_defC ?k1 ?k2 ?k3 ?k4 ?k5 ?kA ?kF ?kK ?k6 ?k7 ?k8 ?k9 ?kB ?kD ?_ ?c2 ?c3 ?c4; (case kA => exact rfl); (case kF => exact rfl); (case kK => assumption); (case k1 => k_asm); (case k2 => k_asm); (case k3 => k_asm); (case k4 => k_asm); (case k5 => k_asm); (case k6 => k_is); (case k7 => k_is); (case k8 => ktr_room); (case k9 => exact BindsTo.of_eq rfl); (case kB => exact rfl); (case kD => decide +kernel); (case c2 => exact rfl); (case c3 => exact rfl); (case c4 => exact rfl); k_whole)
  intro g' L' h' tk' cells' FG' F' N' Y' B' X' T' l1
  (try k_lt l1)
  k_cells Y'
  (try simp only [List.cons_append, List.nil_append] at N')
  (try dsimp only)
  (try k_fold)
  k_with "comp" => walk_at "go comp"
  k_with "comp src" => (
    k_dflt (refine comp_rangeA (n := n + 1) (J := fun base i zs nx => ∃ tl, nx = tl ++ base ∧ GJ n base i zs tl) (by rfl) (by assumption) (by assumption) (by assumption) (small_one (by omega) (by omega) (by omega) (by omega)) (by rw [rangeSize_nat]; omega) (by rw [sizeLine_eq]; omega) ⟨[], rfl, rfl, rfl⟩ ?zt ?zf)
    (case' zt => intro j t5 I5 oI5 C5 oC5 D5 m5 zs5 nx5 h5 tk5 E5 hj hJ5 hoC5 hx5 F5 N5 off5; refine post_gen fun Qz hQz => ?_; obtain ⟨tl5, rfl, hG5⟩ := hJ5)
    (case' zf => intro DL h5 tk5 zs5 nx5 F5 N5 oL hJ5; refine Stop.out ?_))
  k_with "mult" => (refine KMa.mul (vs := [Value.int 0 _]) (by k_asm) (by k_asm) (News.isList (by k_asm) (by k_mem)) (by omega) (by omega) (by simp only [List.length_cons, List.length_nil]; omega) rfl ?_; intro D' h' F' N' l1; (try k_lt l1); (try k_sweep))
  k_steps
  · obtain ⟨tl5, rfl, hG5⟩ := hJ5
    refine Stop.mk ?_
    -- GENERATED
    rcases hn with rfl | rfl
    · obtain ⟨D4, t4, z4, l49, rfl, rfl, lt4, D3, t3, z3, l39, rfl, rfl, lt3, D2, t2, z2, l29, rfl, rfl, lt2, D1, t1, z1, l19, rfl, rfl, lt1, rfl, rfl⟩ := hG5
      simp only [zeros3, LCg.lst, List.nil_append, List.cons_append] at N5 oL lt4 lt3 lt2 lt1 ⊢
      simp only [AllLt] at lt4 lt3 lt2 lt1
      simp only [List.forall_mem_cons] at oL
      obtain ⟨oL1, oL2, oL3, oL4, oL5, oL9⟩ := oL
      replace oL1 := neN oL1
      replace oL2 := neN oL2
      replace oL3 := neN oL3
      replace oL4 := neN oL4
      replace oL5 := neN oL5
      k_with_none
      k_with "sub" => (with_unfolding_all refine' item_litK ?g1 ?g2 ?g3 ?g4 ?_ ?g6; (case g1 => is_list); (case g2 => decide); (case g3 => decide); (case g4 => rfl); (case g6 => with_unfolding_all rfl); k_whole)
      k_with "turn end" => (refine' unr_end (by k_asm) (by k_asm) ?w ?_; (case w => walk_at "without"))
      k_steps
      rename_i kF kN Tc kX
      refine hret _ _ _ _ ⟨DL, [.ref D1, .ref D2, .ref D3, .ref D4], 4, [(D4, listOf #[.int 0 t4, .int 0 t4, .int 0 t4, .int (va + vb) (tk5 + 1)] 0), (D3, listOf #[.int 0 t3, .int vb v, .int 0 t3, .int va u] 0), (D2, listOf #[.int vb v, .int 0 t2, .int va u, .int 0 t2] 0), (D1, listOf #[.int (va + vb) tk5, .int 0 t1, .int 0 t1, .int 0 t1] 0)], rfl, rfl, ?_, ?_⟩ kF (cb_drop kN ?_)
      · show All2 _ _ [[va + vb, 0, 0, 0], [vb, 0, va, 0], [0, vb, 0, va], [0, 0, 0, va + vb]]
        repeat (first | exact All2.nil | refine All2.cons ⟨_, _, 0, rfl, by k_mem, by repeat (first | exact IntsAre.nil | refine IntsAre.cons _ _ ?_)⟩ ?_)
      · refine apart_cons (fun q hq => oL9 q hq) ?_
        refine apart_cons (off_lt lt4.2.2.2.2) ?_
        refine apart_cons (off_lt lt3.2.2.2) ?_
        refine apart_cons (off_lt lt2.2.2) ?_
        refine apart_cons (off_lt lt1.2) ?_
        exact fun _ h => nomatch h
      · intro p hp
        simp only [List.cons_append, List.nil_append, List.mem_cons] at hp ⊢
        rcases hp with h | h | h | h | h | h <;> (repeat (first | exact Or.inl h | exact h | refine Or.inr ?_))
    · obtain ⟨D5, t5, z5, l59, rfl, rfl, lt5, D4, t4, z4, l49, rfl, rfl, lt4, D3, t3, z3, l39, rfl, rfl, lt3, D2, t2, z2, l29, rfl, rfl, lt2, D1, t1, z1, l19, rfl, rfl, lt1, rfl, rfl⟩ := hG5
      simp only [zeros4, LCg.lst, List.nil_append, List.cons_append] at N5 oL lt5 lt4 lt3 lt2 lt1 ⊢
      simp only [AllLt] at lt5 lt4 lt3 lt2 lt1
      simp only [List.forall_mem_cons] at oL
      obtain ⟨oL1, oL2, oL3, oL4, oL5, oL6, oL9⟩ := oL
      replace oL1 := neN oL1
      replace oL2 := neN oL2
      replace oL3 := neN oL3
      replace oL4 := neN oL4
      replace oL5 := neN oL5
      replace oL6 := neN oL6
      k_with_none
      k_with "sub" => (with_unfolding_all refine' item_litK ?g1 ?g2 ?g3 ?g4 ?_ ?g6; (case g1 => is_list); (case g2 => decide); (case g3 => decide); (case g4 => rfl); (case g6 => with_unfolding_all rfl); k_whole)
      k_with "turn end" => (refine' unr_end (by k_asm) (by k_asm) ?w ?_; (case w => walk_at "without"))
      k_steps
      rename_i kF kN Tc kX
      refine hret _ _ _ _ ⟨DL, [.ref D1, .ref D2, .ref D3, .ref D4, .ref D5], 5, [(D5, listOf #[.int 0 t5, .int 0 t5, .int 0 t5, .int 0 t5, .int (va + vb) (tk5 + 1)] 0), (D4, listOf #[.int 0 t4, .int 0 t4, .int vb v, .int 0 t4, .int va u] 0), (D3, listOf #[.int 0 t3, .int vb v, .int 0 t3, .int va u, .int 0 t3] 0), (D2, listOf #[.int vb v, .int 0 t2, .int va u, .int 0 t2, .int 0 t2] 0), (D1, listOf #[.int (va + vb) tk5, .int 0 t1, .int 0 t1, .int 0 t1, .int 0 t1] 0)], rfl, rfl, ?_, ?_⟩ kF (cb_drop kN ?_)
      · show All2 _ _ [[va + vb, 0, 0, 0, 0], [vb, 0, va, 0, 0], [0, vb, 0, va, 0], [0, 0, vb, 0, va], [0, 0, 0, 0, va + vb]]
        repeat (first | exact All2.nil | refine All2.cons ⟨_, _, 0, rfl, by k_mem, by repeat (first | exact IntsAre.nil | refine IntsAre.cons _ _ ?_)⟩ ?_)
      · refine apart_cons (fun q hq => oL9 q hq) ?_
        refine apart_cons (off_lt lt5.2.2.2.2.2) ?_
        refine apart_cons (off_lt lt4.2.2.2.2) ?_
        refine apart_cons (off_lt lt3.2.2.2) ?_
        refine apart_cons (off_lt lt2.2.2) ?_
        refine apart_cons (off_lt lt1.2) ?_
        exact fun _ h => nomatch h
      · intro p hp
        simp only [List.cons_append, List.nil_append, List.mem_cons] at hp ⊢
        rcases hp with h | h | h | h | h | h | h <;> (repeat (first | exact Or.inl h | exact h | refine Or.inr ?_))
  · -- END
    refine hQz _ _ (zend ((D', listOf (zerosV n tk5).toArray 0) :: (tl5 ++ (L' + 1, _) :: news)) F' N' (fun p hp => ?_) (above_off1 l1.2 off5) ⟨(D', listOf (zerosV n tk5).toArray 0) :: tl5, rfl, D', tk5, zs5, tl5, rfl, rfl, allLt_drop l1.2 (fun p hp => List.mem_append_right _ (List.mem_cons_of_mem _ (List.mem_cons_of_mem _ hp))), hG5⟩)
    simp only [List.mem_append, List.mem_cons, List.not_mem_nil, or_false] at hp ⊢
    rcases hp with h | h | h | h | h | h | h <;> (repeat (first | exact Or.inl h | exact h | refine Or.inr ?_))
end

theorem off_its {D9 : Addr} {its nx : Led} {ws : List (Addr × String)} (h : AllLt D9 (its ++ nx)) (hi : PySem.W.Objs ws its) : D9 ∉ ws.map (·.1) := fun hm => by
  rw [← hi.map] at hm
  obtain ⟨q, hq, e⟩ := List.mem_map.mp hm
  exact Nat.lt_irrefl _ (e ▸ ktn_ltOf h q (List.mem_append_left _ hq))
set_option maxHeartbeats 1000000 in
theorem together_ok {w : World} {Wt T : Addr} {vs us : List Value} {c d : Nat} {ws : List Int} {os : Row} {z : Int × Int} {news ro : Led} (hW : (Wt, listOf vs.toArray c) ∈ news) (hw : IntsAre vs ws) (hT : (T, listOf us.toArray d) ∈ news) (hro : ∀ p ∈ ro, p ∈ news) (ho : All2 (PairIn ro) us os)
    (hlen : ws.length = os.length) (hsz : ws.length < 2 ^ 20) (hO : togO ws os ws.length = some z) : CallOK w 148 4 [.ref Wt, .ref T] news (PairPost z news) := by
  have hvl : vs.length = ws.length := hw.length
  have hul : us.length = os.length := ho.length
  unfold CallOK
  k_fill
  k_with_none
  intro p loose mean mg mb dp un gd cn cs a ccd cl outer A₀ base h₀ L m s Q E B F X N T hk hd hu hret
  refine wpAny_call ?_
  k_dflt ktr_enter
  k_with "zip for" => (refine Stop.out ?_)
  k_with "for" => walk_at "go for"
  k_steps
  refine Stop.mk ?_
  rename_i D0 hA0 lt0 hB0 F0 N0
  refine for_zip (J := fun m₀ bs i m nx => ∃ f D t u c, togO ws os i = some f ∧ nx = (D, pairO f t u c) :: news ∧ AllLt D news ∧ Holds [(Str.ofString "found", .ref D)] m) (by first | assumption | passes_own) (by rfl) F0 N0 (by k_mem) (by k_mem) ⟨(0, 1), D0, _, _, _, rfl, rfl, allLt_of lt0, by walk_at "holds"⟩ ?turn ?done
  case turn =>
    clear hret F N B X T F0 N0
    intro I i a b T9 its m₁ nx s₁ Q₁ E₁ hE₁ hI ha hb hT9 hJ hits hk9 hoff F1 N1
    refine turn_gen fun Qt hQt => ?_
    clear hI
    obtain ⟨f, D, tf, uf, cf, hf, rfl, hlD, hm⟩ := hJ
    have hi : i < ws.length := by
      rw [← hvl]
      exact (List.getElem?_eq_some_iff.mp ha).1
    obtain ⟨f2, x, o, t1, y, h1, h2, h3, h4, h5, h6⟩ := togO_step hO i hi
    rw [hf] at h1
    obtain rfl := Option.some.inj h1
    obtain ⟨tx, hx⟩ := hw.get i x h2
    rw [ha] at hx
    obtain rfl := Option.some.inj hx
    obtain ⟨b9, hb9, Do, to', uo, co, rfl, hmo⟩ := ho.get h3
    rw [hb] at hb9
    obtain rfl := Option.some.inj hb9
    have hmo' := hro _ hmo
    obtain ⟨u9, F2⟩ := holds_fr hm F1
    clear F1 hm
    dsimp only [mapC] at F2
    k_with_none
    k_with "use" => first
      | (refine' usePair (by k_asm) (by k_asm) (times_ok (by k_mem) (by k_mem) h4) ?k1 ?k3 ?k5 ?kK ?kd ?ku ?_; walk_at "usePair")
      | (refine' usePair (by k_asm) (by k_asm) (less_ok (by k_mem) (by k_mem) h5) ?k1 ?k3 ?k5 ?kK ?kd ?ku ?_; walk_at "usePair")
    k_steps
    rename_i D9 t9 u9 c9 h9 tk9 l9 h8 F8 N8
    refine hQt _ _ (tend ((D9, pairO y t9 u9 c9) :: news) F8 N8 (fun p hp => ?_) (fun p hp => ?_) ⟨fun p hp => ?_, y, D9, t9, u9, c9, h6, rfl, allLt_drop l9.2.2 (fun p hp => List.mem_append_right _ (List.mem_cons_of_mem _ hp)), by walk_at "holds"⟩)
    · simp only [List.mem_append, List.mem_cons] at hp ⊢
      rcases hp with h | h | h <;> simp only [h, true_or, or_true]
    · rcases List.mem_cons.mp hp with rfl | hp
      · exact off_its l9.2.2 hits
      · exact hoff p (List.mem_cons_of_mem _ hp)
    · simp only [List.mem_cons, List.not_mem_nil, or_false] at hp
      rcases hp with rfl | rfl
      · exact List.mem_cons_of_mem _ hW
      · exact List.mem_cons_of_mem _ hT
  case done =>
    clear F0 N0
    intro m₁ nx h tk9 hJ F1 N1
    obtain ⟨f, D, tf, uf, cf, hf, rfl, hlD, hm⟩ := hJ
    rw [show min vs.length us.length = ws.length by omega, hO] at hf
    obtain rfl := Option.some.inj hf
    obtain ⟨u9, F2⟩ := holds_fr hm F1
    clear F1
    dsimp only [mapC] at F2
    k_with_none
    (try dsimp only)
    (try k_unmd)
    (try k_fold)
    k_steps
    exact hret _ _ _ _ ⟨D, tf, uf, cf, rfl, rfl, hlD⟩ (by assumption) (by assumption)

abbrev lamPar (p1 p2 : Pos) : Arguments := { posonlyargs := [], args := [{ arg := "one", annotation := none, pos := p1 }, { arg := "other", annotation := none, pos := p2 }], vararg := none, kwonlyargs := [], kw_defaults := [], kwarg := none, defaults := [] }
abbrev lamScope : Scope := { kind := .function, names := [(Str.ofString "one", .local), (Str.ofString "other", .local)], isGenerator := false, isCoroutine := false, more := [] }
abbrev lamObj (op : Operator) (qual : Str) (p1 p2 q1 q2 q3 : Pos) (pm : Value) (c' : Addr) (ctv : Value) : Obj := kla_obj "<lambda>" qual (lamPar p1 p2) (.BinOp (.Name "one" q1) op (.Name "other" q2) q3) lamScope [] pm c' ctv
/-- a code object of the ledger -/
def CodeIn (news : Led) (c' : Addr) (qual : Str) : Prop := ∃ oc vs t, (c', oc) ∈ news ∧ oc.data = .fields vs ∧ vs[1]? = some (.str qual t)
theorem CodeIn.mono {news news' : Led} {c' : Addr} {qual : Str} (h : CodeIn news c' qual) (hs : ∀ p ∈ news, p ∈ news') : CodeIn news' c' qual := by
  obtain ⟨oc, vs, t, h1, h2, h3⟩ := h
  exact ⟨oc, vs, t, hs _ h1, h2, h3⟩
section
variable {w : World} {f c' : Addr} {qual : Str} {p1 p2 q1 q2 q3 : Pos} {pm ctv : Value} {news : Led} {x y : Int} {t u : Tok}
set_option maxHeartbeats 1000000 in
theorem plus_ok (hf : (f, lamObj .Add qual p1 p2 q1 q2 q3 pm c' ctv) ∈ news) (hc : CodeIn news c' qual) : CallOK w f 1 [.int x t, .int y u] news (IntPost (x + y) news) := by
  obtain ⟨oc, vs, t0, hc1, hc2, hc3⟩ := hc
  unfold CallOK
  k_fill
  k_with_none
  intro p loose mean mg mb dp un gd cn cs a ccd cl outer A₀ base h₀ L m s Q E B F X N T hk hd hu hret
  refine wpAny_call ?_
  k_dflt (refine' kla_code ?k1 ?k2 ?k3 ?k4 ?k5 ?kA ?kF ?kK hf ?k7 ?k8 ?k9 ?kB ?_ ?c2 ?c3 ?c4 ?c5; (case kA => exact rfl); (case kF => exact rfl); (case kK => assumption); (case k1 => k_asm); (case k2 => k_asm); (case k3 => k_asm); (case k4 => k_asm); (case k5 => k_asm); (case k7 => exact codeRec_news (by k_asm) hc1 hc2 hc3); (case k8 => ktr_room); (case k9 => exact rfl); (case c5 => decide); (case kB => exact locs rfl); (case c2 => exact rfl); (case c3 => exact rfl); (case c4 => exact rfl); k_whole)
  intro g' L' h' FG' F' N' B' X' T'
  (try dsimp only)
  (try k_fold)
  k_steps
  walk_at "intEnd"
  rfl
set_option maxHeartbeats 1000000 in
theorem mult_ok (hf : (f, lamObj .Mult qual p1 p2 q1 q2 q3 pm c' ctv) ∈ news) (hc : CodeIn news c' qual) (hx : Sm x = true) : CallOK w f 1 [.int x t, .int y u] news (IntPost (x * y) news) := by
  obtain ⟨oc, vs, t0, hc1, hc2, hc3⟩ := hc
  unfold CallOK
  k_fill
  k_with_none
  intro p loose mean mg mb dp un gd cn cs a ccd cl outer A₀ base h₀ L m s Q E B F X N T hk hd hu hret
  refine wpAny_call ?_
  k_dflt (refine' kla_code ?k1 ?k2 ?k3 ?k4 ?k5 ?kA ?kF ?kK hf ?k7 ?k8 ?k9 ?kB ?_ ?c2 ?c3 ?c4 ?c5; (case kA => exact rfl); (case kF => exact rfl); (case kK => assumption); (case k1 => k_asm); (case k2 => k_asm); (case k3 => k_asm); (case k4 => k_asm); (case k5 => k_asm); (case k7 => exact codeRec_news (by k_asm) hc1 hc2 hc3); (case k8 => ktr_room); (case k9 => exact rfl); (case c5 => decide); (case kB => exact locs rfl); (case c2 => exact rfl); (case c3 => exact rfl); (case c4 => exact rfl); k_whole)
  intro g' L' h' FG' F' N' B' X' T'
  (try dsimp only)
  (try k_fold)
  k_with "mul" => (with_reducible refine mul_int ?_ (Sm.mul hx))
  k_steps
  walk_at "intEnd"
  rfl
end

/-- the two functions made, as what is handed on -/
theorem ops_of {w : World} {f1 f2 c1 c2 : Addr} {qual : Str} {p1 p2 q1 q2 q3 p1' p2' q1' q2' q3' : Pos} {pm ctv pm' ctv' : Value} {base : Led}
    (h1 : (f1, lamObj .Add qual p1 p2 q1 q2 q3 pm c1 ctv) ∈ base) (k1 : CodeIn base c1 qual) (h2 : (f2, lamObj .Mult qual p1' p2' q1' q2' q3' pm' c2 ctv') ∈ base) (k2 : CodeIn base c2 qual) : Ops w f1 f2 base :=
  ⟨⟨_, _, _, _, h1⟩, ⟨_, _, _, _, h2⟩, fun _ _ _ _ _ hs => plus_ok (hs _ h1) (k1.mono hs), fun _ _ _ _ _ hs hx => mult_ok (hs _ h2) (k2.mono hs) hx⟩

/-- the table of the code objects, at the places of two -/
structure TabOK (ps : List Value) (pA pB : Pos) (qual : Str) (news : Led) : Prop where
  t : TriplesOk ps
  a : codeAmong pA ps = none ∨ ∃ c', codeAmong pA ps = some (.ref c') ∧ CodeIn news c' qual
  b : codeAmong pB ps = none ∨ ∃ c', codeAmong pB ps = some (.ref c') ∧ CodeIn news c' qual
theorem TabOK.mono {ps : List Value} {pA pB : Pos} {qual : Str} {news news' : Led} (h : TabOK ps pA pB qual news) (hs : ∀ p ∈ news, p ∈ news') : TabOK ps pA pB qual news' :=
  ⟨h.t, h.a.imp id fun ⟨c, e, k⟩ => ⟨c, e, k.mono hs⟩, h.b.imp id fun ⟨c, e, k⟩ => ⟨c, e, k.mono hs⟩⟩
theorem TabOK.swap {ps : List Value} {pA pB : Pos} {qual : Str} {news : Led} (h : TabOK ps pA pB qual news) : TabOK ps pB pA qual news := ⟨h.t, h.b, h.a⟩
theorem TabOK.nil {pA pB : Pos} {qual : Str} {news : Led} : TabOK [] pA pB qual news := ⟨trivial, .inl rfl, .inl rfl⟩
theorem codeAmong_more {pos p : Pos} {c : Value} (l : List Value) (h : TriplesOk l) : codeAmong p (l ++ [rawInt pos.line, rawInt pos.col, c]) = (codeAmong p l).orElse fun _ => if (((pos.line : Int) == p.line && (pos.col : Int) == p.col) = true) then some c else none := by
  fun_induction TriplesOk l with
  | case1 => simp [codeAmong, rawInt]
  | case2 i t j u x rest ih =>
    simp only [List.cons_append, codeAmong]
    split
    · simp
    · exact ih h
  | case3 => exact h.elim
theorem TabOK.snoc {ps : List Value} {pA pB : Pos} {qual : Str} {news : Led} {c' : Addr} (h : TabOK ps pA pB qual news) (hn : codeAmong pA ps = none) (k : CodeIn news c' qual) : TabOK (ps ++ [rawInt pA.line, rawInt pA.col, .ref c']) pA pB qual news := by
  refine ⟨TriplesOk_snoc _ _ _ _ h.t, .inr ⟨c', codeAmong_snoc _ h.t hn, k⟩, ?_⟩
  rw [codeAmong_more _ h.t]
  rcases h.b with e | ⟨c, e, kc⟩
  · rw [e]
    show (if _ then _ else _) = none ∨ _
    split
    · exact .inr ⟨c', by simp_all, k⟩
    · exact .inl (by simp_all)
  · rw [e]
    exact .inr ⟨c, rfl, kc⟩

section
open PySem.Spec PySem.Calls
variable {M : Model} {A : Around} {E : Value → Shared → Prop} {s : Shared} {h₀ : Heap} {L a c P : Addr} {m mg mb : Str → Option Value} {cn : Str} {cs : Scope} {ccd : Value} {cl : List (Str × Addr)} {rest all : Led}
  {p : Program} {loose : List Str} {mean : ExcName → Option Value} {name qual : Str} {params : Arguments} {body : PySem.Expr} {scope : Scope} {ps : List Value} {pos pB : Pos} {firstLine : Nat} {clos : List (Str × Addr)}
/-- a lambda, for the first time or again -/
theorem lam_any {Q : Value → Shared → Prop} {kl : Led} (F : Fr h₀ L s.heap m) (N : News h₀ L s.heap all) (W : Without P (tabObj ps.toArray) all rest) (T : Top p loose mean mg mb h₀) (C : CodeHd h₀ c P) (hcd : ccd = .ref c) (ht : TabOK ps pos pB qual kl)
    (hcl : closureFor scope (envX cn cs L a ccd cl) = pure clos)
    (h : ∀ f c' ctv ps' ex h' tk, Fr h₀ L h' m → News h₀ L h' ((f, kla_obj name qual params body scope clos ((mg "__name__").getD .none) c' ctv) :: (P, tabObj (List.toArray ps')) :: (ex ++ rest)) →
      TabOK ps' pos pB qual (ex ++ kl) → CodeIn (ex ++ kl) c' qual → (∀ q ∈ (P, tabObj ps'.toArray) :: (ex ++ rest), q.1 < f) → (∀ p ∈ ex, p.1 ≠ P ∧ ∀ q ∈ rest, q.1 < p.1) → (∀ p ∈ ex ++ rest, p.1 ≠ P) → Q (.ref f) { s with heap := h', toks := tk }) :
    wpAny M A (makeFunction name qual params (.expr body) scope (envX cn cs L a ccd cl) [] [] [] pos firstLine) Q E s := by
  have hW := W.spec
  have N₂ : News h₀ L s.heap ((P, tabObj ps.toArray) :: rest) := fun q hq => N q (hW.1 q hq)
  have hPall : (P, tabObj ps.toArray) ∈ all := hW.1 _ List.mem_cons_self
  rcases ht.a with hn | ⟨c', hc, hk⟩
  · refine kla_nest F N₂ T C hcd (UpdF.head hW.2) ht.t hn hcl fun f c' oc vs t ctv h' tk F' N' hd hv hlt hcf => ?_
    rw [show ps.toArray ++ #[rawInt pos.line, rawInt pos.col, .ref c'] = (ps ++ [rawInt pos.line, rawInt pos.col, .ref c']).toArray by simp] at N'
    have hk : CodeIn ([(c', oc)] ++ kl) c' qual := ⟨oc, vs, t, List.mem_cons_self, hd, hv⟩
    refine h f c' ctv (ps ++ [rawInt pos.line, rawInt pos.col, .ref c']) [(c', oc)] h' tk F' (fun q hq => N' q ?_) ((ht.mono fun _ hp => List.mem_append_right _ hp).snoc hn hk) hk (fun q hq => ?_) (fun q hq => ?_) (fun q hq => ?_)
    · simp only [List.cons_append, List.nil_append, List.mem_cons] at hq ⊢
      rcases hq with h | h | h | h <;> simp only [h, true_or, or_true]
    · simp only [List.cons_append, List.nil_append, List.mem_cons] at hq
      rcases hq with rfl | rfl | hq
      · exact Nat.lt_trans (hlt (P, tabObj ps.toArray) List.mem_cons_self) hcf
      · exact hcf
      · exact Nat.lt_trans (hlt q (List.mem_cons_of_mem _ hq)) hcf
    · rw [List.mem_singleton.mp hq]
      exact ⟨Nat.ne_of_gt (hlt (P, tabObj ps.toArray) List.mem_cons_self), fun r hr => hlt r (List.mem_cons_of_mem _ hr)⟩
    · rcases List.mem_cons.mp hq with rfl | hq
      · exact Nat.ne_of_gt (hlt (P, tabObj ps.toArray) List.mem_cons_self)
      · exact hW.2 q hq
  · refine kla_hit (c' := c') F N₂ T C hcd List.mem_cons_self ht.t hc hcl fun f ctv h' tk F' N' hlt => ?_
    refine h f c' ctv ps [] h' tk F' N' ht hk hlt (fun _ h => nomatch h) hW.2
end

theorem useCoin {w : World} {Bg S : Addr} {spot below : Int} {t tb : Tok} {cB cS : Nat} {vs : List Value} {ns : List Int} {all rest : Led}
    {p : Program} {loose : List Str} {mean : ExcName → Option Value} {mg mb : Str → Option Value}
    {dp un : Nat} {gd : Option (List Code)} {cn : Str} {cs : Scope} {a : Addr} {ccd : Value} {cl : List (Str × Addr)} {outer : List Env} {A₀ : Around} {base h₀ : Heap} {L : Addr} {m : Str → Option Value} {s : Shared}
    {Q E : Value → Shared → Prop}
    (F : Fr h₀ L s.heap m) (N : News h₀ L s.heap all) (W : Without Bg (listOf [.ref S, .int spot t].toArray cB) all rest) (hS : (S, listOf vs.toArray cS) ∈ rest) (hi : IntsAre vs ns) (h0 : 0 ≤ spot) (h1 : spot < 1000) (hb : 0 < below) (hlen : ns.length < 2 ^ 20) (hbs : Sm below = true)
    (B : Below A₀ base outer h₀) (X : (hd.heap_39 w.params).In h₀) (T : Top p loose mean mg mb h₀) (hk : cs.kind = .function) (hd : dp + 1 < recursionLimit) (hu : un + 8 * 1 < cLine)
    (ret : ∀ (c : Int) (t' t'' : Tok) (h' : Heap) (tk' : Nat), 0 ≤ c → c < below → Fr h₀ L h' m → News h₀ L h' ((Bg, listOf [.ref S, .int (spot + 1) t''].toArray cB) :: rest) → Q (.int c t') { s with heap := h', toks := tk' }) :
    wpAny (model PySem.Challenge.rw_xm0024_01.row.prog w) (ktrTop dp un gd cn cs L a ccd cl outer) (call (.ref 115) [.ref Bg, .int below tb]) Q E s :=
  use (coin_ok hS hi W.spec.2 h0 h1 hb hlen hbs) B F X (fun q hq => N q (W.spec.1 q hq)) T hk hd hu (by
    rintro _ _ h' tk' ⟨c, t', t'', rfl, k1, k2, rfl⟩ F' N'
    exact ret c t' t'' h' tk' k1 k2 F' N')

section
open PySem.Spec PyProof.V
variable {prog : Program} {w : World} {A : Around} {E : Value → Shared → Prop} {s : Shared} {h₀ : Heap} {L : Addr} {news : Led}
/-- a pair as a datum -/
def pairD (x : Int × Int) : Dat := .tuple [.int x.1, .int x.2]
theorem PairIn.dat {v : Value} {x : Int × Int} (h : PairIn news v x) : DatIn news v (pairD x) := by
  obtain ⟨a, t, u, c, rfl, hm⟩ := h
  exact .tuple (vs := [.int x.1 t, .int x.2 u]) hm (.cons (.int _ _) (.cons (.int _ _) .nil))
theorem pairs_dat : ∀ {vs : List Value} {r : List (Int × Int)}, All2 (PairIn news) vs r → DatAll news vs (r.map pairD)
  | _, _, .nil => .nil
  | _, _, .cons h r => .cons h.dat (pairs_dat r)
theorem pairD_ok (x : Int × Int) : kqdOk 8 (pairD x) = true := rfl
theorem rows_ne {a b : Addr} {xs ys : List Value} {ca cb : Nat} {r : List (Int × Int)} {n1 n2 : Led} {Q : Value → Shared → Prop} (N : News h₀ L s.heap news) (ha : (a, listOf xs.toArray ca) ∈ news) (hb : (b, listOf ys.toArray cb) ∈ news) (s1 : ∀ p ∈ n1, p ∈ news) (s2 : ∀ p ∈ n2, p ∈ news)
    (hx : All2 (PairIn n1) xs r) (hy : All2 (PairIn n2) ys r) (hu : A.units + 64 < cLine) (h : Q (.bool false) s) : wpAny (model prog w) A (compareOp .NotEq (.ref a) (.ref b)) Q E s := by
  refine kqd_ne N ha rfl rfl (pairs_dat hx) s1 hb rfl rfl (pairs_dat hy) s2 ?_ ?_ hu (by simpa using h)
  · intro d hd
    obtain ⟨x, _, rfl⟩ := List.mem_map.mp hd
    exact pairD_ok x
  · intro d hd
    obtain ⟨x, _, rfl⟩ := List.mem_map.mp hd
    exact pairD_ok x
theorem pair_ne {a b : Addr} {x : Int × Int} {n1 n2 : Led} {Q : Value → Shared → Prop} (N : News h₀ L s.heap news) (s1 : ∀ p ∈ n1, p ∈ news) (s2 : ∀ p ∈ n2, p ∈ news)
    (hx : PairIn n1 (.ref a) x) (hy : PairIn n2 (.ref b) x) (hu : A.units + 64 < cLine) (h : Q (.bool false) s) : wpAny (model prog w) A (compareOp .NotEq (.ref a) (.ref b)) Q E s := by
  obtain ⟨as, ra⟩ := kqd_in N 8 (hx.mono s1).dat (pairD_ok x)
  obtain ⟨bs, rb⟩ := kqd_in N 8 (hy.mono s2).dat (pairD_ok x)
  have l := kqd_lay 8 (pairD x) (pairD_ok x)
  have sh : SeqAt.shaped (kqdP (pairD x)) = true := by
    unfold SeqAt.shaped
    rw [l.1, Bool.true_and]
    exact decide_eq_true (Nat.le_trans l.2 (by decide))
  have e : PyData.eqv (kqdP (pairD x)) (kqdP (pairD x)) = true := (kqd_eqv 8 (pairD x) (pairD x) 8 (pairD_ok x) (pairD_ok x)).mpr rfl
  exact ne_dataH ra rb sh sh hu (by rw [e]; exact h)
end
theorem all2_take {α β : Type} {R : α → β → Prop} : ∀ {as : List α} {bs : List β} (k : Nat), All2 R as bs → All2 R (as.take k) (bs.take k)
  | _, _, 0, _ => by simp only [List.take_zero]; exact .nil
  | _, _, _ + 1, .nil => by simp only [List.take_nil]; exact .nil
  | _, _, k + 1, .cons h r => .cons h (all2_take k r)
theorem all2_drop {α β : Type} {R : α → β → Prop} : ∀ {as : List α} {bs : List β} (k : Nat), All2 R as bs → All2 R (as.drop k) (bs.drop k)
  | _, _, 0, h => h
  | _, _, _ + 1, .nil => by simp only [List.drop_nil]; exact .nil
  | _, _, k + 1, .cons _ r => all2_drop k r
theorem pick_upto {vs : List Value} {y : Int} {k : Nat} (h : y = (k : Int)) : kms_pick vs none (some y) = vs.take k := by
  subst h
  unfold kms_pick kms_lo kms_hi
  simp only [List.drop_zero, Nat.sub_zero]
  rw [if_neg (by omega)]
  simp only [Int.toNat_natCast, kmk_take_min]
theorem pick_from {vs : List Value} {x : Int} {k : Nat} (h : x = (k : Int)) : kms_pick vs (some x) none = vs.drop k := by
  subst h
  unfold kms_pick kms_lo kms_hi
  simp only
  rw [if_neg (by omega)]
  simp only [Int.toNat_natCast, kmk_drop_min]
  rw [List.take_of_length_le]
  rw [List.length_drop]
  omega
theorem hold_off {tls tlr nine : Led} {a b r : Addr × Obj} (h1 : Apart (a :: b :: tls) (r :: (tlr ++ nine))) (h2 : Apart (r :: tlr) nine) : Apart (tls ++ tlr) nine := fun p hp q hq => by
  rcases List.mem_append.mp hp with hp | hp
  · exact h1 p (List.mem_cons_of_mem _ (List.mem_cons_of_mem _ hp)) q (List.mem_cons_of_mem _ (List.mem_append_right _ hq))
  · exact h2 p (List.mem_cons_of_mem _ hp) q hq
theorem rowsZ_row {n : Nat} {a b : Int} (hn : n = 3 ∨ n = 4) : ∀ r ∈ rowsZ n a b, r.length < 2 ^ 20 := fun r hr => by
  obtain ⟨i, _, rfl⟩ := List.mem_map.mp hr
  simp only [eqRow, List.length_append, List.length_map, List.length_range, List.length_cons, List.length_nil]
  omega
theorem pow_sm {x : Int} {k : Nat} (h : 1 ≤ x ∧ x ≤ 4) (hk : k ≤ 4) : Sm (x ^ k) = true := by
  have h1 : k = 0 ∨ k = 1 ∨ k = 2 ∨ k = 3 ∨ k = 4 := by omega
  rcases four h with rfl | rfl | rfl | rfl <;> rcases h1 with rfl | rfl | rfl | rfl | rfl <;> decide
theorem powsZ_len {n : Nat} {a b : Int} : (powsZ n a b).length = n := by simp [powsZ]
theorem powsZ_get {n i : Nat} {a b : Int} (h : i < n) : (powsZ n a b)[i]? = some (a ^ (i : Int).toNat * b ^ ((n : Int) - 1 - (i : Int)).toNat) := by
  unfold powsZ
  rw [List.getElem?_map, List.getElem?_range h]
  show some _ = some _
  rw [Int.toNat_natCast, show ((n : Int) - 1 - (i : Int)).toNat = n - 1 - i by omega]
theorem perm11 {g h : Heap} {L : Addr} {a b r x1 x2 x3 x4 x5 x6 x7 x8 : Addr × Obj} {tlr tls : Led} (N : News g L h (a :: b :: ((r :: (tlr ++ [x1, x2, x3, x4, x5, x6, x7, x8])) ++ tls))) : News g L h (a :: b :: x1 :: x2 :: x3 :: x4 :: x5 :: x6 :: x7 :: x8 :: (tls ++ tlr)) := fun p hp => by
  refine N p ?_
  simp only [List.mem_cons, List.mem_append, List.cons_append, List.not_mem_nil, or_false] at hp ⊢
  rcases hp with h | h | h | h | h | h | h | h | h | h | h | h <;> simp [h]
theorem take_out {h₀ h : Heap} {L R : Addr} {o : Obj} {all r : Led} (N : News h₀ L h all) (W : Without R o all r) : News h₀ L h ((R, o) :: r) ∧ (∀ p ∈ r, p.1 ≠ R) ∧ ∀ p ∈ r, p ∈ all :=
  ⟨fun p hp => N p (W.spec.1 p hp), W.spec.2, fun p hp => W.spec.1 p (List.mem_cons_of_mem _ hp)⟩
theorem take_last {h₀ h : Heap} {L R : Addr} {o : Obj} {all r : Led} (N : News h₀ L h all) (W : Without R o all r) : ∃ fix, fix = r ∧ News h₀ L h ((R, o) :: fix) ∧ (∀ p ∈ fix, p.1 ≠ R) ∧ ∀ p ∈ fix, p ∈ all :=
  ⟨r, rfl, take_out N W⟩
theorem news_tail {h₀ h : Heap} {L : Addr} {q : Addr × Obj} {r : Led} (N : News h₀ L h (q :: r)) : News h₀ L h r := fun p hp => N p (List.mem_cons_of_mem _ hp)
theorem news_put {h₀ h : Heap} {L : Addr} {q : Addr × Obj} {r r' : Led} (N : News h₀ L h (q :: r)) (N' : News h₀ L h r') : News h₀ L h (q :: r') := fun p hp => by
  rcases List.mem_cons.mp hp with rfl | hp
  · exact N _ List.mem_cons_self
  · exact N' p hp
theorem append_wo {prog : Program} {w : World} {A : Around} {E : Value → Shared → Prop} {s : Shared} {h₀ : Heap} {L R : Addr} {m : Str → Option Value} {all rest : Led} {vs : List Value} {c : Nat} {v : Value} {Q : Value → Shared → Prop}
    (F : Fr h₀ L s.heap m) (N : News h₀ L s.heap all) (W : Without R (listOf vs.toArray c) all rest) (hsz : vs.length < 2 ^ 20)
    (h : ∀ h', Fr h₀ L h' m → News h₀ L h' ((R, listOf (vs ++ [v]).toArray (c + 1)) :: rest) → Q .none { s with heap := h' }) :
    wpAny (model prog w) A (call (.builtin "list.append") [.ref R, v]) Q E s :=
  append_to rest F N (W.spec.1 _ List.mem_cons_self) (fun p hp => W.spec.1 p (List.mem_cons_of_mem _ hp)) W.spec.2 hsz h
theorem ansZ_get {n i : Nat} {a b : Int} (h : i < n - 1) : (ansZ n a b)[(((i + 1 : Nat) : Int) - 1).toNat]? = some (ansRow n i a b) := by
  rw [show (((i + 1 : Nat) : Int) - 1).toNat = i by omega]
  unfold ansZ
  rw [List.getElem?_map, List.getElem?_range h]
  rfl
theorem unitR_len {m i : Nat} : (unitR m i).length = m := by simp [unitR]
theorem ansRow_take {n i : Nat} {a b : Int} : (ansRow n i a b).take (n - 1) = unitR (n - 1) i := by
  unfold ansRow
  rw [List.take_left' unitR_len]
theorem ansRow_drop {n i : Nat} {a b : Int} : (ansRow n i a b).drop (n - 1) = [chanceF n (i + 1) a b, roundsF n (i + 1) a b] := by
  unfold ansRow
  rw [List.drop_left' unitR_len]
theorem ansRow_chance {n i : Nat} {a b : Int} (hn : 1 ≤ n) : (ansRow n i a b)[((n : Int) - 1).toNat]? = some (chanceF n (i + 1) a b) := by
  rw [show ((n : Int) - 1).toNat = n - 1 by omega]
  unfold ansRow
  rw [List.getElem?_append_right (by rw [unitR_len]; exact Nat.le_refl _), unitR_len, Nat.sub_self]
  rfl
theorem ansRow_rounds {n i : Nat} {a b : Int} (hn : 1 ≤ n) : (ansRow n i a b)[((n : Nat) : Int).toNat]? = some (roundsF n (i + 1) a b) := by
  rw [Int.toNat_natCast]
  unfold ansRow
  rw [List.getElem?_append_right (by rw [unitR_len]; omega), unitR_len, show n - (n - 1) = 1 by omega]
  rfl
theorem chancesZ_get {n i : Nat} {a b : Int} (h : i < n - 1) : (chancesZ n a b)[i + 1]? = some (chanceF n (i + 1) a b) := by
  unfold chancesZ
  simp only [List.cons_append, List.getElem?_cons_succ]
  rw [List.getElem?_append_left (by simpa using h), List.getElem?_map, List.getElem?_range h]
  rfl
theorem roundsZ_get {n i : Nat} {a b : Int} (h : i < n - 1) : (roundsZ n a b)[i + 1]? = some (roundsF n (i + 1) a b) := by
  unfold roundsZ
  simp only [List.cons_append, List.getElem?_cons_succ]
  rw [List.getElem?_append_left (by simpa using h), List.getElem?_map, List.getElem?_range h]
  rfl
theorem unitR_get {m i j : Nat} (h : j < m) : (unitR m i)[j]? = some (if j = i then 1 else 0, 1) := by
  unfold unitR
  rw [List.getElem?_map, List.getElem?_range h]
  rfl
local macro_rules | `(tactic| walk_at "off") => `(tactic| first | exact List.forall_mem_nil _ | (refine List.forall_mem_cons.mpr (And.intro (by k_ne) ?_); walk_at "off") | assumption | exact off_lt (by tbn_find))
theorem perm14 {g h : Heap} {L : Addr} {a b c d e f x9 x8 x5 x4 x3 x2 x1 tb : Addr × Obj} {hold : Led} (N : News g L h (a :: b :: c :: d :: e :: f :: x9 :: x8 :: x5 :: x4 :: x3 :: x2 :: x1 :: tb :: hold)) :
    ∃ fix st, fix = f :: x9 :: x8 :: x5 :: tb :: st ∧ st = e :: c :: hold ∧ News g L h (d :: b :: x4 :: x3 :: x2 :: x1 :: fix) := ⟨_, _, rfl, rfl, fun p hp => by
  refine N p ?_
  simp only [List.mem_cons] at hp ⊢
  rcases hp with h | h | h | h | h | h | h | h | h | h | h | h | h | h <;> simp only [h, true_or, or_true]⟩
theorem off_at {g h : Heap} {L : Addr} {d b : Addr × Obj} {X : Addr} {o : Obj} {r fix F : Led} (_ : News g L h (d :: b :: (X, o) :: r)) (e : fix = F) (h : ∀ p ∈ F, p.1 ≠ X) : ∀ p ∈ fix, p.1 ≠ X := by
  rw [e]
  exact h
theorem ansRow_len {n i : Nat} {a b : Int} : (ansRow n i a b).length = n - 1 + 2 := by
  unfold ansRow
  rw [List.length_append, unitR_len]
  rfl
theorem zend_pair {h₀ : Heap} {L : Addr} {m : Str → Option Value} {s₁ : Shared} {I C D Dz : Addr} {oI oC : Obj} {zs : List Value} {tl base : Led} {rs : List (Int × Int)} {j : Nat} {x : Int × Int} {t u : Tok} {c : Nat} {h' : Heap} {tk : Nat}
    (F : Fr h₀ L h' m) (N : News h₀ L h' ((Dz, ({ cls := .type "tuple", data := .seq #[.int x.1 t, .int x.2 u] c } : Obj)) :: ([(I, oI)] ++ (C, oC) :: (D, LCg.lst zs) :: (tl ++ base)))) (l : AllLt Dz ([(I, oI)] ++ (C, oC) :: (D, LCg.lst zs) :: (tl ++ base)))
    (off : ∀ p ∈ tl ++ base, p.1 ∉ [I] ∧ p.1 ≠ C ∧ p.1 ≠ D) (hz : All2 (PairIn tl) zs (rs.take j)) (hx : rs[j]? = some x) (ho : ∀ p ∈ tl, ∀ q ∈ base, q.1 < p.1) :
    ZEnd h₀ L m s₁ [(I, oI)] [I] C D oC (LCg.lst zs) (fun y nx' => ∃ tl, nx' = tl ++ base ∧ All2 (PairIn tl) (zs ++ [y]) (rs.take (j + 1)) ∧ ∀ p ∈ tl, ∀ q ∈ base, q.1 < p.1) (.ref Dz) { s₁ with heap := h', toks := tk } := by
  refine zend ((Dz, ({ cls := .type "tuple", data := .seq #[.int x.1 t, .int x.2 u] c } : Obj)) :: (tl ++ base)) F N (fun p hp => ?_) (above_off1 l off) ⟨(Dz, _) :: tl, rfl, all2_snoc hz hx pairIn_new, fun p hp q hq => ?_⟩
  · simp only [List.mem_append, List.mem_cons, List.not_mem_nil, or_false] at hp ⊢
    rcases hp with h | h | h | h | h | h <;> simp only [h, true_or, or_true]
  · rcases List.mem_cons.mp hp with rfl | hp
    · exact ktn_ltOf l q (List.mem_append_right _ (List.mem_cons_of_mem _ (List.mem_cons_of_mem _ (List.mem_append_right _ hq))))
    · exact ho p hp q hq
theorem permC {g h : Heap} {L : Addr} {c r x4 x3 x2 x1 f x9 x8 x5 tb : Addr × Obj} {fix st : Led} (N : News g L h (c :: r :: x4 :: x3 :: x2 :: x1 :: fix)) (e : fix = f :: x9 :: x8 :: x5 :: tb :: st) :
    News g L h (c :: r :: x9 :: x5 :: tb :: x8 :: x3 :: x2 :: x1 :: st) := fun p hp => by
  subst e
  refine N p ?_
  simp only [List.mem_cons] at hp ⊢
  rcases hp with h | h | h | h | h | h | h | h | h | h <;> simp only [h, true_or, or_true]
theorem chancesZ_len {n : Nat} {a b : Int} (h : 1 ≤ n) : (chancesZ n a b).length = n + 1 := by
  simp [chancesZ]
  omega
theorem roundsZ_len {n : Nat} {a b : Int} (h : 1 ≤ n) : (roundsZ n a b).length = n + 1 := by
  simp [roundsZ]
  omega
theorem chancesZ_last {n : Nat} {a b : Int} (h : 1 ≤ n) : (chancesZ n a b).take (n - 1 + 1) ++ [(1, 1)] = chancesZ n a b := by
  unfold chancesZ
  rw [List.take_left' (by simp)]
theorem roundsZ_last {n : Nat} {a b : Int} (h : 1 ≤ n) : (roundsZ n a b).take (n - 1 + 1) ++ [(0, 1)] = roundsZ n a b := by
  unfold roundsZ
  rw [List.take_left' (by simp)]
theorem permD {g h : Heap} {L : Addr} {a r t0 p0 c t1 p1 c0 r0 x9 x5 tb x8 x3 x2 x1 : Addr × Obj} {st : Led} (N : News g L h (a :: r :: t0 :: p0 :: c :: t1 :: p1 :: c0 :: r0 :: x9 :: x5 :: tb :: x8 :: x3 :: x2 :: x1 :: st)) :
    ∃ st2, st2 = p0 :: p1 :: st ∧ News g L h (x9 :: c :: r :: x5 :: tb :: x8 :: x3 :: x2 :: x1 :: st2) := ⟨_, rfl, fun p hp => by
  refine N p ?_
  simp only [List.mem_cons] at hp ⊢
  rcases hp with h | h | h | h | h | h | h | h | h | h | h | h <;> simp only [h, true_or, or_true]⟩
theorem permG {g h : Heap} {L : Addr} {gd x9 c r x5 tb x8 x3 x2 x1 : Addr × Obj} {tlg st2 : Led} (N : News g L h (gd :: (tlg ++ x9 :: c :: r :: x5 :: tb :: x8 :: x3 :: x2 :: x1 :: st2))) :
    ∃ st3, st3 = tlg ++ st2 ∧ News g L h (gd :: x9 :: c :: r :: x5 :: tb :: x8 :: x3 :: x2 :: x1 :: st3) := ⟨_, rfl, fun p hp => by
  refine N p ?_
  simp only [List.mem_cons, List.mem_append] at hp ⊢
  rcases hp with h | h | h | h | h | h | h | h | h | h | h | h <;> simp only [h, true_or, or_true]⟩
theorem off_st' {p0 p1 : Addr × Obj} {st st2 : Led} {X : Addr} (h : st2 = p0 :: p1 :: st) (h1 : p0.1 ≠ X) (h2 : p1.1 ≠ X) (h8 : ∀ p ∈ st, p.1 ≠ X) : ∀ p ∈ st2, p.1 ≠ X := by
  subst h
  exact List.forall_mem_cons.mpr ⟨h1, List.forall_mem_cons.mpr ⟨h2, h8⟩⟩
theorem off_st3 {tlg st2 st3 : Led} {X : Addr} (h : st3 = tlg ++ st2) (h1 : ∀ p ∈ tlg, p.1 ≠ X) (h2 : ∀ p ∈ st2, p.1 ≠ X) : ∀ p ∈ st3, p.1 ≠ X := by
  subst h
  intro p hp
  rcases List.mem_append.mp hp with hp | hp
  · exact h1 p hp
  · exact h2 p hp
theorem unitW_len {n k : Nat} : (unitW n k).length = n + 1 := by simp [unitW]
theorem unitW_get {n k j : Nat} (h : j < n + 1) : (unitW n k)[j]? = some (if j = k then 1 else 0) := by
  unfold unitW
  rw [List.getElem?_map, List.getElem?_range h]
  rfl
theorem permE {g h : Heap} {L : Addr} {a d e gd x9 c r x5 tb x8 x3 x2 x1 : Addr × Obj} {st3 : Led} (N : News g L h (a :: d :: e :: gd :: x9 :: c :: r :: x5 :: tb :: x8 :: x3 :: x2 :: x1 :: st3)) :
    News g L h (x9 :: d :: gd :: c :: r :: x8 :: tb :: x5 :: x3 :: x2 :: x1 :: st3) := fun p hp => by
  refine N p ?_
  simp only [List.mem_cons] at hp ⊢
  rcases hp with h | h | h | h | h | h | h | h | h | h | h | h <;> simp only [h, true_or, or_true]
theorem permF {g h : Heap} {L : Addr} {x9 d gd c r x8 tb x5 x3 x2 x1 : Addr × Obj} {st3 : Led} (N : News g L h (x9 :: d :: gd :: c :: r :: x8 :: tb :: x5 :: x3 :: x2 :: x1 :: st3)) :
    ∃ fix2, fix2 = d :: gd :: c :: r :: st3 ∧ News g L h (tb :: x5 :: x3 :: x2 :: x1 :: fix2) := ⟨_, rfl, fun p hp => by
  refine N p ?_
  simp only [List.mem_cons] at hp ⊢
  rcases hp with h | h | h | h | h | h | h | h | h | h <;> simp only [h, true_or, or_true]⟩
abbrev lamQ : Str := (Str.ofString "law" ++ ".<locals>." : Str) ++ "<lambda>"
abbrev lamA : Pos := { line := 122, col := 0, endLine := 122, endCol := 30 }
abbrev lamB : Pos := { line := 123, col := 0, endLine := 123, endCol := 30 }
theorem run_played {ws : List Value} {wi : List Int} {n : Nat} (h : IntsAre ws wi) (hl : wi.length = n + 1) : IntsAre (slicePick ws.toArray (some 1) (some (n : Int)) none).toList ((wi.drop 1).take (n - 1)) := by
  have := kmk_run h (x := 1) (y := (n : Int)) (by decide) (by omega)
  rw [hl, show (1 : Int).toNat = 1 from rfl, Int.toNat_natCast, show min n (n + 1) - 1 = n - 1 by omega] at this
  exact this
theorem gridZ_len {n : Nat} {a b : Int} : (gridZ n a b).length = n + 1 := by simp [gridZ]
theorem gridZ_0 {n : Nat} {a b : Int} : ∃ g0, (gridZ n a b)[0]? = some g0 ∧ g0.length = n + 1 := by
  unfold gridZ
  rw [List.getElem?_map, List.getElem?_range (by omega)]
  exact ⟨_, rfl, by simp⟩
theorem permL {g h : Heap} {L : Addr} {f2 tb f1 o1 it x5 x3 x2 x1 : Addr × Obj} {ex2 ex1 tl fix2 : Led} (N : News g L h (f2 :: tb :: (ex2 ++ f1 :: (ex1 ++ o1 :: it :: x5 :: x3 :: x2 :: x1 :: (tl ++ fix2))))) :
    ∃ tlx, tlx = ex2 ++ (ex1 ++ tl) ∧ News g L h (o1 :: f1 :: f2 :: it :: tb :: x5 :: x3 :: x2 :: x1 :: (tlx ++ fix2)) := ⟨_, rfl, fun p hp => by
  refine N p ?_
  simp only [List.mem_cons, List.mem_append] at hp ⊢
  rcases hp with h | h | h | h | h | h | h | h | h | (h | h | h) | h <;> simp only [h, true_or, or_true]⟩
theorem permT {g h : Heap} {L : Addr} {lf dw it tb x5 x3 x2 x1 : Addr × Obj} {tlx fix2 : Led} (N : News g L h (lf :: dw :: it :: tb :: x5 :: x3 :: x2 :: x1 :: (tlx ++ fix2))) :
    News g L h ([it] ++ (tb :: x5 :: x3 :: x2 :: x1 :: ((lf :: dw :: tlx) ++ fix2))) := fun p hp => by
  refine N p ?_
  simp only [List.mem_cons, List.mem_append, List.cons_append, List.nil_append, List.not_mem_nil, or_false] at hp ⊢
  rcases hp with h | h | h | h | h | h | h | h | h | h <;> simp only [h, true_or, or_true]

/-- the rest, apart -/
structure Rest (P : Prop) : Prop where
  out : P
set_option maxHeartbeats 2000000 in
def cutA : Σ' P : Prop, (Rest P → PySem.Challenge.rw_xm0024_01.Holds) := by
  refine' ⟨_, fun hP => hd ?_⟩
  rotate_left
  focus w_strict (
    k_go0
    (all_goals try k_fold)
    k_with "use" => (refine Stop.out ?_)
    k_steps
    rename Shared => s1
    rename_i h₁ tk₁ o4 o3 o2 o1 o0 d4 d3 d2 d1 d0 X0 X' T' K' l0 DS vs h2 hI hC hL la lB h3 lb h4 F N
    have e4 : o4.data = .cell none := d4
    have e3 : o3.data = .cell none := d3
    have e2 : o2.data = .cell none := d2
    have e1 : o1.data = .cell none := d1
    have e0 : o0.data = .cell none := d0
    clear d4 d3 d2 d1 d0 X0
    replace la := la.1
    replace lb := lb.1
    obtain ⟨u9, F1⟩ := holds_fr (ps := [(Str.ofString "bag", .ref lB)]) (by walk_at "holds") F
    clear F
    dsimp only [mapC] at F1
    refine Stop.mk ?_
    have hlen5 : (List.take 5 _).length < 2 ^ 20 := Nat.lt_of_le_of_lt (Nat.le_of_eq hC) (Nat.lt_of_le_of_lt (Nat.min_le_left _ _) (by decide))
    k_dflt (refine' useCoin F1 N ?W ?hS hI ?h0 ?h1 (by decide) hlen5 (by decide) ?k1 ?k3 ?k5 ?kK ?kd ?ku ?_)
    case W => walk_at "without"
    case hS => k_mem
    case h0 => decide
    case h1 => decide
    walk_at "use"
    intro c t' t'' h5 tk5 c0 c1 F5 N5
    k_steps
    rename_i h6 oS F6 N6 dS
    dsimp only at dS
    (try clear e0)
    refine Stop.mk ?_
    obtain ⟨n, hn⟩ : ∃ n : Nat, 3 + c = n := ⟨(3 + c).toNat, by omega⟩
    rw [hn] at dS
    have hn34 : n = 3 ∨ n = 4 := by omega
    clear hn c0 c1
    -- a
    k_dflt (refine' useCoin F6 N6 ?W ?hS hI ?h0 ?h1 (by decide) hlen5 (by decide) ?k1 ?k3 ?k5 ?kK ?kd ?ku ?_)
    case W => walk_at "without"
    case hS => k_mem
    case h0 => decide
    case h1 => decide
    walk_at "use"
    intro c2 t2 t2' h7 tk7 c20 c21 F7 N7
    k_steps
    -- b
    refine Stop.mk ?_
    k_dflt (refine' useCoin F7 N7 ?W ?hS hI ?h0 ?h1 (by decide) hlen5 (by decide) ?k1 ?k3 ?k5 ?kK ?kd ?ku ?_)
    case W => walk_at "without"
    case hS => k_mem
    case h0 => decide
    case h1 => decide
    walk_at "use"
    intro c3 t3 t3' h8 tk8 c30 c31 F8 N8
    k_steps
    -- _law_rows
    rename_i DT hx lT hy hz oA dA h9 oB F9 N9 dB
    refine Stop.mk ?_
    obtain ⟨va, hva⟩ : ∃ v, v = 1 + c2 := ⟨_, rfl⟩
    obtain ⟨vb, hvb⟩ : ∃ v, v = 1 + c3 := ⟨_, rfl⟩
    rw [← hva] at dA
    rw [← hvb] at dB
    rw [← hva, ← hvb]
    have ha4 : 1 ≤ va ∧ va ≤ 4 := by omega
    have hb4 : 1 ≤ vb ∧ vb ≤ 4 := by omega
    clear hva hvb c20 c21 c30 c31
    replace N9 := fun p hp => N9 p (List.mem_cons_of_mem _ hp)
    clear lT
    k_dflt (refine' use (rows_ok hn34 ha4 hb4) ?k1 F9 ?k3 N9 ?k5 ?kK ?kd ?ku ?_)
    walk_at "use"
    rintro _ _ h10 tk10 ⟨Rr, vr, cr, tlr, rfl, rfl, hallr, hapr⟩ F10 N10
    k_steps
    -- solved_rows
    refine Stop.mk ?_
    have hsol := solves_ok hn34 ha4 hb4
    k_dflt (refine' use (solved_ok (ro := tlr) List.mem_cons_self (fun p hp => List.mem_cons_of_mem _ (List.mem_append_left _ hp)) hallr (by rw [rowsZ_len]; omega) (rowsZ_row hn34) hsol.1) ?k1 F10 ?k3 N10 ?k5 ?kK ?kd ?ku ?_)
    walk_at "use"
    rintro _ _ h11 tk11 ⟨Tt, cT, Rs, vS, cS2, Dd, tls, rfl, rfl, hPd, hallS, hapS⟩ F11 N11
    have hApH := hold_off hapS hapr
    have hPd' : PairIn (tls ++ tlr) (.ref Dd) ((powsZ n va vb).sum, 1) := hPd.mono fun p hp => List.mem_append_left _ hp
    have hRB := neN (hapS (Rs, _) (by k_mem) (lB, _) (by k_mem))
    have hR4 := neN (hapS (Rs, _) (by k_mem) (_, o4) (by k_mem))
    have hR3 := neN (hapS (Rs, _) (by k_mem) (_, o3) (by k_mem))
    have hRt := neN (hapS (Rs, _) (by k_mem) (150, tabObj #[]) (by k_mem))
    dsimp only at hRB hR4 hR3 hRt
    clear hPd hapS hapr hallr
    have hBo := fun p hp => hApH p hp (lB, _) (by k_mem)
    have hSo := fun p hp => hApH p hp (DS, _) (by k_mem)
    have h4o := fun p hp => hApH p hp (_, o4) (by k_mem)
    have h3o := fun p hp => hApH p hp (_, o3) (by k_mem)
    have hbo := fun p hp => hApH p hp (_, oB) (by k_mem)
    have hao := fun p hp => hApH p hp (_, oA) (by k_mem)
    have hso := fun p hp => hApH p hp (_, oS) (by k_mem)
    have hto := fun p hp => hApH p hp (150, tabObj #[]) (by k_mem)
    dsimp only at hBo hSo h4o h3o hbo hao hso hto
    clear hApH
    replace N11 := perm11 N11
    obtain ⟨hold, hhold⟩ : ∃ h, tls ++ tlr = h := ⟨_, rfl⟩
    rw [hhold] at N11 hallS hPd' hBo hSo h4o h3o hbo hao hso hto
    clear hhold
    dsimp only at hallS
    have hn20 : n < 2 ^ 20 := by omega
    have ha64 : va.natAbs < 2 ^ 64 := by omega
    have hb64 : vb.natAbs < 2 ^ 64 := by omega
    k_with "comp" => walk_at "go comp"
    k_with "comp src" => (
      k_dflt (refine comp_range (n := n) (J := fun base i zs nx => nx = base ∧ IntsAre zs ((powsZ n va vb).take i)) (by rfl) (by assumption) (by assumption) (by assumption) (range_small hn20) range_size (by rw [sizeLine_eq]; omega) ⟨rfl, .nil⟩ ?zt ?zf)
      (case' zt =>
        intro j t5 I5 oI5 C5 oC5 D5 m5 zs5 nx5 h5 tk5 E5 hj hJ5 hoC5 hx5 F5 N5 off5
        refine post_gen fun Qz hQz => ?_
        obtain ⟨rfl, hz5⟩ := hJ5
        have hj4 : j ≤ 3 := by omega
        simp only [Int.zero_add] at hx5)
      (case' zf =>
        intro D5 h5 tk5 zs5 nx5 F5 N5 o5 hJ5
        obtain ⟨rfl, hz5⟩ := hJ5
        rw [List.take_of_length_le (Nat.le_of_eq powsZ_len)] at hz5))
    k_with "pow" => first | (with_reducible refine pow_int_small (by omega) (by omega) ha64 ?_) | (with_reducible refine pow_int_small (by omega) (by omega) hb64 ?_)
    k_with "mul" => (with_reducible refine mul_int ?_ (Sm.mul (pow_sm ha4 (by omega))))
    k_with "ne" => (refine Stop.out ?_)
    k_with "for" => walk_at "go for"
    k_steps
    rotate_left
    · refine hQz _ _ (zend _ (by assumption) (by assumption) (fun p hp => hp) off5 ⟨rfl, ints_snoc hz5 (powsZ_get hj)⟩)
    rename_i D13 h13 F13 N13 l13
    refine Stop.mk ?_
    k_dflt (refine pair_ne (x := ((powsZ n va vb).sum, 1)) N13 ?s1 (fun _ h => h) hPd' ⟨_, _, _, _, rfl, List.mem_cons_self⟩ (by ke_room) ?_)
    case s1 => exact fun p hp => by walk_at "mem"
    replace N13 := fun p hp => N13 p (List.mem_cons_of_mem _ (List.mem_cons_of_mem _ (List.mem_cons_of_mem _ hp)))
    clear l13 o5 hz5
    k_with_none
    k_with "for" => walk_at "go for"
    k_steps
    -- the first loop
    rename_i tkc Dc0 hc1 lc1 chL hc2 lc2 Dr0 hc3 lc3 rdL hc4 lc4 DT2 hc5 lc5 hc6 hc7 hc8 Fc Nc hc9 tkc9 tr1 tr2 tr3 hRg F14 N14 hK14
    clear Fc Nc hK14 lc5
    obtain ⟨m1, m2, -⟩ := lc1
    have m3 := lc2.1
    have m4 := lc3.1
    have m5 := lc4.1
    have m6 : AllLt chL hold := lc2.2.2.2.2.2.2.2.2.2.2
    have m7 : AllLt rdL hold := lc4.2.2.2.2.2.2.2.2.2.2.2.2
    clear lc2 lc3 lc4
    clear N9 N13
    repeat (first | exact hP.out | (rename _ => hX; revert hX)))

theorem ne_cells {L DS lB Rs Dc chL Dr rdL : Nat} (l0 : 150 < L) (la : L + 1 + 1 + 1 + 1 + 1 < DS) (lb : DS < lB) (m1 : Rs < Dc) (m2 : lB < Dc) (m3 : Dc < chL) (m4 : chL < Dr) (m5 : Dr < rdL) :
    (Dc ≠ chL ∧ Dr ≠ chL ∧ Rs ≠ chL ∧ lB ≠ chL ∧ DS ≠ chL ∧ L + 1 + 1 + 1 + 1 + 1 ≠ chL ∧ 150 ≠ chL) ∧ (Dc ≠ rdL ∧ Dr ≠ rdL ∧ Rs ≠ rdL ∧ lB ≠ rdL ∧ DS ≠ rdL ∧ L + 1 + 1 + 1 + 1 + 1 ≠ rdL ∧ 150 ≠ rdL) ∧
    (Dc ≠ L + 1 + 1 + 1 + 1 ∧ Dr ≠ L + 1 + 1 + 1 + 1 ∧ lB ≠ L + 1 + 1 + 1 + 1 ∧ DS ≠ L + 1 + 1 + 1 + 1 ∧ L + 1 + 1 + 1 + 1 + 1 ≠ L + 1 + 1 + 1 + 1 ∧ 150 ≠ L + 1 + 1 + 1 + 1) ∧
    (Dc ≠ lB ∧ Dr ≠ lB) ∧ (Dc ≠ L + 1 + 1 + 1 + 1 + 1 ∧ Dr ≠ L + 1 + 1 + 1 + 1 + 1) ∧ (Dc ≠ 150 ∧ Dr ≠ 150) := by
  refine ⟨⟨?_, ?_, ?_, ?_, ?_, ?_, ?_⟩, ⟨?_, ?_, ?_, ?_, ?_, ?_, ?_⟩, ⟨?_, ?_, ?_, ?_, ?_, ?_⟩, ⟨?_, ?_⟩, ⟨?_, ?_⟩, ⟨?_, ?_⟩⟩ <;> omega
theorem off_st {e c : Addr × Obj} {hold st : Led} {X : Addr} (h : st = e :: c :: hold) (h1 : e.1 ≠ X) (h2 : c.1 ≠ X) (h8 : ∀ p ∈ hold, p.1 ≠ X) : ∀ p ∈ st, p.1 ≠ X := by
  subst h
  exact List.forall_mem_cons.mpr ⟨h1, List.forall_mem_cons.mpr ⟨h2, h8⟩⟩
theorem off_fix {f x9 x8 x5 tb : Addr × Obj} {st fix : Led} {X : Addr} (h : fix = f :: x9 :: x8 :: x5 :: tb :: st) (h3 : f.1 ≠ X) (h4 : x9.1 ≠ X) (h5 : x8.1 ≠ X) (h6 : x5.1 ≠ X) (h7 : tb.1 ≠ X) (h8 : ∀ p ∈ st, p.1 ≠ X) : ∀ p ∈ fix, p.1 ≠ X := by
  subst h
  exact List.forall_mem_cons.mpr ⟨h3, List.forall_mem_cons.mpr ⟨h4, List.forall_mem_cons.mpr ⟨h5, List.forall_mem_cons.mpr ⟨h6, List.forall_mem_cons.mpr ⟨h7, h8⟩⟩⟩⟩⟩
set_option maxHeartbeats 2000000 in
def cutB : Σ' P Q : Prop, (Rest P → Rest Q → cutA.1) := by
  refine' ⟨_, _, fun hP hQ => ?_⟩
  rotate_left 2
  focus
    delta cutA
    dsimp only
    intros
    rename_i w s0 s1 mg mb x186 x185 fa x183 x182 x181 x180 x179 x178 x177 x176 x175 x174 x173 x172 x171 x170 script x168 x167 x166 x165 x164 x163 x162 Sc Sv x159 x158 x157 x156 x155 x154 x153 x152 x151 hDf x149 x148 o4 o3 x145 x144 x143 X' T' K' lifted codeHd l0 DS vs x134 hI x132 x131 lB x129 x128 x127 e4 e3 x124 x123 la lb u9 hlen5 x118 x117 x116 x115 tkS x113 oS x111 n dS hn34 x107 x106 x105 x104 tkA x102 x101 t3' x99 tkB x97 x96 x95 x94 oA x92 oB x90 va dA vb dB ha4 hb4 x83 x82 x81 x80 x79 x78 hsol x76 x75 x74 x73 Rs vS cS2 Dd x68 hRB hR4 hR3 hRt hold hto hso hao hbo h3o h4o hSo hBo hPd hallS hn20 ha64 hb64 x49 x48 x47 x46 x45 x44 x43 x42 x41 x40 x39 x38 x37 x36 x35 x34 x33 x32 x31 x30 tkc Dc0 x27 chL x25 Dr0 x23 rdL x21 DT2 x19 x18 x17 x16 x15 x14 x13 x12 x11 x10 hRg F14 N14 m1 m2 m3 m4 m5 m6 m7
    clear x40 x39 hDf
    obtain ⟨fix, st, hfix, hst, N15⟩ := perm14 N14
    clear N14
    obtain ⟨⟨a1, a2, a3, a4, a5, a6, a7⟩, ⟨b1, b2, b3, b4, b5, b6, b7⟩, ⟨c1, c2, c4, c5, c6, c7⟩, ⟨g1, g2⟩, ⟨g3, g4⟩, ⟨g5, g6⟩⟩ := ne_cells l0 la lb m1 m2 m3 m4 m5
    have hcL := Nat.lt_trans la (Nat.lt_trans lb (Nat.lt_trans m2 m3))
    have hfc : ∀ p ∈ fix, p.1 ≠ chL := off_fix hfix a3 a4 a5 a6 a7 (off_st hst a1 a2 (off_lt m6))
    have hfr : ∀ p ∈ fix, p.1 ≠ rdL := off_fix hfix b3 b4 b5 b6 b7 (off_st hst b1 b2 (off_lt m7))
    have hfa : ∀ p ∈ fix, p.1 ≠ s1.heap.objs.size + 1 + 1 + 1 + 1 := off_fix hfix hR3 c4 c5 c6 c7 (off_st hst c1 c2 h3o)
    have hstB : ∀ p ∈ st, p.1 ≠ lB := off_st hst g1 g2 hBo
    have hst5 : ∀ p ∈ st, p.1 ≠ s1.heap.objs.size + 1 + 1 + 1 + 1 + 1 := off_st hst g3 g4 h4o
    have hstt : ∀ p ∈ st, p.1 ≠ 150 := off_st hst g5 g6 hto
    clear a1 a2 a3 a4 a5 a6 a7 b1 b2 b3 b4 b5 b6 b7 c1 c2 c4 c5 c6 c7 g1 g2 g3 g4 g5 g6
    have hRsF : (Rs, listOf vS.toArray cS2) ∈ fix := by rw [hfix]; k_mem
    have hHoS : ∀ p ∈ hold, p ∈ st := fun p hp => by rw [hst]; walk_at "mem"
    have hstF : ∀ p ∈ st, p ∈ fix := fun p hp => by rw [hfix]; walk_at "mem"
    have hHoF : ∀ p ∈ hold, p ∈ fix := fun p hp => hstF p (hHoS p hp)
    have hDcF : PairIn st (.ref Dc0) (0, 1) := ⟨_, _, _, _, rfl, by rw [hst]; k_mem⟩
    have hDrF : PairIn st (.ref Dr0) (0, 1) := ⟨_, _, _, _, rfl, by rw [hst]; k_mem⟩
    clear hst
    refine for_range (n := n - 1) (J := fun m₀ base i m nx => ∃ cvs cc rvs cd oat v₀, nx = (chL, listOf cvs.toArray cc) :: (rdL, listOf rvs.toArray cd) :: (s1.heap.objs.size + 1 + 1 + 1 + 1, oat) :: (s1.heap.objs.size + 1 + 1 + 1, oB) :: (s1.heap.objs.size + 1 + 1, oA) :: (s1.heap.objs.size + 1, oS) :: fix ∧ All2 (PairIn st) cvs ((chancesZ n va vb).take (i + 1)) ∧ All2 (PairIn st) rvs ((roundsZ n va vb).take (i + 1)) ∧ oat.data = .cell v₀ ∧
      Holds [(Str.ofString "bag", .ref lB), (Str.ofString "rows", .ref Rs), (Str.ofString "chances", .ref chL), (Str.ofString "rounds", .ref rdL)] m) (by first | assumption | passes_own) (by rfl) hRg (small_one (by omega) (by omega) (by omega) (by omega)) range_size1 F14 N15 ?h0 ?turn ?done
    case h0 => exact ⟨_, _, _, _, o3, none, rfl, .cons hDcF .nil, .cons hDrF .nil, e3, by walk_at "holds"⟩
    case turn =>
      clear hfix hstB hst5 hstt m1 m2 m6 m7 hto hso hao hbo h3o h4o hSo hBo hPd hRB hR4 hR3 hRt hlen5 la lb hDcF hDrF N15 F14 hRg
      clear x186 x185 x180 x179 x178 x171 x170 x168 x167 x166 x165 x164 x158 x157 x156 x155 x154 x153 x152 x151 lifted hI x132 x131 e4 e3 x124 x123 codeHd
      repeat (first | exact hP.out | (rename _ => hX; revert hX))
    case done =>
      clear N15 F14 hRg hto hso hao hbo h3o h4o hSo hBo hPd hRB hR4 hR3 hRt hfc hfr hfa hRsF hHoF hDcF hDrF hHoS hstF hallS ha64 hb64 m3 m4 m5 m6 m7 hsol
      repeat (first | exact hQ.out | (rename _ => hX; revert hX))

set_option maxHeartbeats 2000000 in
theorem turn1 : cutB.1 := by
  delta cutB
  dsimp only
  k_fill
  intros
  rename_i w s0 s1 mg mb fa x156 x155 x154 x153 x152 x151 x150 x149 x148 script x146 x145 x144 x143 x142 x141 x140 o4 o3 x137 x136 x135 X' T' K' l0 DS vs x128 lB x126 x125 x124 u9 x122 x121 x120 x119 tkS x117 oS x115 n dS hn34 x111 x110 x109 x108 tkA x106 x105 x104 x103 tkB x101 x100 x99 x98 oA x96 oB x94 va dA vb dB ha4 hb4 x87 x86 x85 x84 x83 x82 hsol x80 x79 x78 x77 Rs vS cS2 Dd x72 hold hallS hn20 ha64 hb64 x66 x65 x64 x63 x62 x61 x60 x59 x58 x57 x56 x55 x54 x53 x52 x51 x50 x49 x48 Dc0 x46 chL x44 Dr0 x42 rdL x40 x39 x38 x37 x36 x35 x34 x33 x32 x31 x30 x29 m3 m4 m5 fix st hcL hfc hfr hfa hRsF hHoS hstF hHoF I oI i t m1 nx s2 Q1 E1 hE1 hI hi hJ hoff F1 N1
  refine turn_gen fun Qt hQt => ?_
  obtain ⟨cvs, cc, rvs, cd, oat, v0, rfl, hcv, hrv, dat, hm⟩ := hJ
  have hIc : chL ≠ I := by simpa using hoff _ List.mem_cons_self
  have hIr : rdL ≠ I := by simpa using hoff _ (List.mem_cons_of_mem _ List.mem_cons_self)
  have hIa : s1.heap.objs.size + 1 + 1 + 1 + 1 ≠ I := by simpa using hoff _ (List.mem_cons_of_mem _ (List.mem_cons_of_mem _ List.mem_cons_self))
  replace hIc := neN hIc
  replace hIr := neN hIr
  replace hIa := neN hIa
  clear hI
  obtain ⟨u8, F2⟩ := holds_fr hm F1
  clear F1 hm
  dsimp only [mapC] at F2
  simp only [List.cons_append, List.nil_append] at N1 ⊢
  have hz : (1 : Int) + (i : Int) = ((i + 1 : Nat) : Int) := by omega
  rw [hz]
  have hn1 : 1 ≤ n := by omega
  have hn5 : n < 5 := by omega
  have hi5 : i < 5 := by omega
  have hch : chanceOk n ((i + 1 : Nat) : Int) va vb = true := (hsol.2 i hi).1
  have hrd : roundsOk n ((i + 1 : Nat) : Int) va vb = true := (hsol.2 i hi).2
  have hg9 := ansZ_get (a := va) (b := vb) hi
  have hc9 := ansRow_chance (i := i) (a := va) (b := vb) hn1
  have hr9 := ansRow_rounds (i := i) (a := va) (b := vb) hn1
  clear hz hsol hn34 ha4 hb4 ha64 hb64 hn20
  (try dsimp only)
  (try k_unmd)
  (try k_fold)
  k_with_none
  k_with "sub" => first
    | (refine sub_row (by assumption) (by k_mem) hallS (by omega) (by omega) (by assumption) ?_; intro aR vR cR hmR haR; have hmR' := hHoF _ hmR; have hvR : vR.toArray.size ≤ sizeLine := by (rw [List.size_toArray, haR.length, ansRow_len, sizeLine_eq]; omega))
    | (refine sub_pair (by assumption) (by k_mem) (by assumption) (by omega) (by omega) (by assumption) ?_; intro aP tP uP cP hmP; have hmP' := hHoS _ hmP)
  k_with "slice" => (k_dflt (refine' kms_slice_lit ?sF ?sN ?sl ?slo ?shi ?se ?_ ?ss ?st ?sz; (case sF => k_asm); (case sN => k_asm); (case sl => exact newsList (by k_asm) (by k_mem)); (case slo => kmk_part); (case shi => kmk_part); (case se => first | exact pick_upto (k := n - 1) (by omega) | exact pick_from (k := n - 1) (by omega)); (case ss => with_unfolding_all rfl); (case st => kmk_pure); (case sz => assumption); k_whole); intro D' h' F' N' l1; (try k_lt l1); (try simp only [List.toList_toArray] at N'); (try k_sweep))
  k_with "comp" => walk_at "go comp"
  k_with "comp src" => (
    k_dflt (refine comp_range (n := n - 1) (J := fun base k zs nx => ∃ tl, nx = tl ++ base ∧ All2 (PairIn tl) zs ((unitR (n - 1) i).take k) ∧ ∀ p ∈ tl, ∀ q ∈ base, q.1 < p.1) (by rfl) (by assumption) (by assumption) (by assumption) (small_one (by omega) (by omega) (by omega) (by omega)) (by rw [rangeSize_nat]; omega) (by rw [sizeLine_eq]; omega) ⟨[], rfl, .nil, fun _ h => nomatch h⟩ ?zt ?zf)
    (case' zt =>
      intro j t5 I5 oI5 C5 oC5 D5 m5 zs5 nx5 h5 tk5 E5 hj hJ5 hoC5 hx5 F5 N5 off5
      refine post_gen fun Qz hQz => ?_
      obtain ⟨tl5, rfl, hz5, ho5⟩ := hJ5
      simp only [Int.zero_add] at hx5)
    (case' zf =>
      intro D5 h5 tk5 zs5 nx5 F5 N5 o5 hJ5
      obtain ⟨tl5, rfl, hz5, ho5⟩ := hJ5
      rw [List.take_of_length_le (Nat.le_of_eq unitR_len)] at hz5))
  k_with "ne" => (refine Stop.out ?_)
  k_with "append" => (refine Stop.out ?_)
  k_steps
  rotate_left
  · refine hQz _ _ ?_
    exact zend_pair (x := (1, 1)) (by assumption) (by assumption) (by first | assumption | exact allLt_of (by assumption)) off5 hz5 (by rw [unitR_get hj, if_pos (by omega)]) ho5
  · refine hQz _ _ ?_
    exact zend_pair (x := (0, 1)) (by assumption) (by assumption) (by first | assumption | exact allLt_of (by assumption)) off5 hz5 (by rw [unitR_get hj, if_neg (by omega)]) ho5
  refine Stop.mk ?_
  rename _ = Data.cell (some (Value.int ((i + 1 : Nat) : Int) t)) => dQ

  have hsl : All2 (PairIn hold) (vR.take (n - 1)) (unitR (n - 1) i) := by
    have := all2_take (n - 1) haR
    rwa [ansRow_take] at this
  k_dflt (refine rows_ne (r := unitR (n - 1) i) N5 (by k_mem) (by k_mem) ?s1 ?s2 hsl hz5 (by ke_room) ?_)
  case s1 => exact fun p hp => by have hp' := hHoF p hp; walk_at "mem"
  case s2 => exact fun p hp => List.mem_cons_of_mem _ (List.mem_append_left _ hp)
  replace N5 := fun p hp => N5 p (List.mem_cons_of_mem _ (List.mem_append_right _ (List.mem_cons_of_mem _ hp)))
  clear o5 ho5 hz5 l1
  k_with "use" => (k_dflt first
    | ((with_reducible show wpAny _ _ (call (Value.ref 129) _) _ _ _); refine' usePair (by k_asm) (by k_asm) (chance_ok hch) ?k1 ?k3 ?k5 ?kK ?kd ?ku ?_; walk_at "usePair")
    | (refine' usePair (by k_asm) (by k_asm) (rounds_ok hrd) ?k1 ?k3 ?k5 ?kK ?kd ?ku ?_; walk_at "usePair"))
  k_steps
  refine Stop.mk ?_
  have hsl2 : All2 (PairIn hold) (vR.drop (n - 1)) [chanceF n ((i + 1 : Nat) : Int) va vb, roundsF n ((i + 1 : Nat) : Int) va vb] := by
    have := all2_drop (n - 1) haR
    rw [ansRow_drop] at this
    exact this
  rename News _ _ _ _ => Nn
  k_dflt (refine rows_ne (r := [chanceF n ((i + 1 : Nat) : Int) va vb, roundsF n ((i + 1 : Nat) : Int) va vb]) Nn (by k_mem) (by k_mem) ?s1 (fun _ h => h) hsl2 (All2.cons ⟨_, _, _, _, rfl, by k_mem⟩ (All2.cons ⟨_, _, _, _, rfl, by k_mem⟩ All2.nil)) (by ke_room) ?_)
  case s1 => exact fun p hp => by have hp' := hHoF p hp; walk_at "mem"
  replace Nn := news_tail (news_tail (news_tail (news_tail Nn)))
  have hcvl : cvs.length < 2 ^ 20 := by rw [hcv.length, List.length_take]; omega
  have hrvl : rvs.length < 2 ^ 20 := by rw [hrv.length, List.length_take]; omega
  (try clear l1)
  k_steps
  refine Stop.mk ?_
  have hall1 : All2 (PairIn st) (cvs ++ [.ref aP]) ((chancesZ n va vb).take (i + 1 + 1)) := by
    rw [take_snoc (chancesZ_get hi)]
    exact hcv.append (.cons ⟨aP, _, _, _, rfl, hmP'⟩ .nil)
  k_dflt (refine append_wo (by k_asm) (by k_asm) (by walk_at "without") hcvl ?_)
  intro h6 F6 N6
  k_steps
  refine Stop.mk ?_
  have hall2 : All2 (PairIn st) (rvs ++ [.ref aP]) ((roundsZ n va vb).take (i + 1 + 1)) := by
    rw [take_snoc (roundsZ_get hi)]
    exact hrv.append (.cons ⟨aP, _, _, _, rfl, hmP'⟩ .nil)
  k_dflt (refine append_wo (by k_asm) (by k_asm) (by walk_at "without") hrvl ?_)
  intro h7 F7 N7
  k_steps
  refine hQt _ _ (tend ((chL, _) :: (rdL, _) :: (s1.heap.objs.size + 1 + 1 + 1 + 1, _) :: (s1.heap.objs.size + 1 + 1 + 1, oB) :: (s1.heap.objs.size + 1 + 1, oA) :: (s1.heap.objs.size + 1, oS) :: fix) (by assumption) N7 (fun p hp => ?_) (fun p hp => ?_) ⟨(fun _ h => nomatch h), _, cc + 1, _, cd + 1, _, _, rfl, hall1, hall2, dQ, by walk_at "holds"⟩)
  · simp only [List.cons_append, List.nil_append, List.mem_cons] at hp ⊢
    rcases hp with h | h | h | h | h | h | h | h <;> simp only [h, true_or, or_true]
  · simp only [List.mem_cons] at hp
    rcases hp with h | h | h | h
    · rw [h]; exact hoff (chL, listOf cvs.toArray cc) List.mem_cons_self
    · rw [h]; exact hoff (rdL, listOf rvs.toArray cd) (List.mem_cons_of_mem _ List.mem_cons_self)
    · rw [h]; exact hoff (s1.heap.objs.size + 1 + 1 + 1 + 1, oat) (List.mem_cons_of_mem _ (List.mem_cons_of_mem _ List.mem_cons_self))
    · exact hoff p (by simp only [List.mem_cons, h, or_true])

set_option maxHeartbeats 2000000 in
def cutC : Σ' P Q : Prop, (Rest P → Rest Q → cutB.2.1) := by
  refine' ⟨_, _, fun hP hQ => ?_⟩
  rotate_left 2
  focus
    delta cutB
    dsimp only
    k_fill
    intros
    rename_i w s0 s1 mg mb x172 x171 fa x169 x168 x167 x166 x165 x164 x163 x162 x161 x160 x159 x158 x157 x156 script x154 x153 x152 x151 x150 x149 x148 x147 x146 x145 x144 x143 x142 x141 x140 x139 x138 x137 x136 x135 o4 o3 x132 x131 x130 X' T' K' lifted codeHd l0 DS vs x121 hI x119 x118 lB x116 x115 x114 e4 e3 x111 x110 la lb u9 hlen5 x105 x104 x103 x102 x101 x100 oS x98 n dS hn34 x94 x93 x92 x91 x90 x89 x88 x87 x86 x85 x84 x83 x82 x81 oA x79 oB x77 va dA vb dB ha4 hb4 x70 x69 x68 x67 x66 x65 x64 x63 x62 x61 Rs vS cS2 x57 x56 hold hn20 x53 x52 x51 x50 x49 x48 x47 x46 x45 x44 x43 x42 x41 x40 x39 x38 x37 x36 x35 Dc0 x33 chL x31 Dr0 x29 rdL x27 x26 x25 x24 x23 x22 x21 x20 x19 x18 x17 x16 m1 m2 fix st hfix hcL hstB hst5 hstt mm nx hh tk0 hJ F1 N1
    obtain ⟨cvs, cc, rvs, cd, oat, v0, rfl, hcv, hrv, dat, hm⟩ := hJ
    have hn1 : 1 ≤ n := by omega
    have N2 := permC N1 hfix
    clear N1 hfix dat m1 m2 e3
    have hcvl : cvs.length < 2 ^ 10 := by rw [hcv.length, List.length_take]; omega
    have hrvl : rvs.length < 2 ^ 10 := by rw [hrv.length, List.length_take]; omega
    obtain ⟨u8, F2⟩ := holds_fr hm F1
    clear F1 hm
    dsimp only [mapC] at F2
    (try dsimp only)
    (try k_unmd)
    (try k_fold)
    k_with_none
    k_with "add" => (k_dflt (refine' kmk_add_lit ?aF ?aN ?aa ?ab rfl ?_ ?az; (case aF => k_asm); (case aN => k_asm); (case aa => exact newsList (by k_asm) (by k_mem)); (case ab => exact newsList (by k_asm) (by k_mem)); (case az => (simp only [List.toList_toArray, List.length_cons, List.length_nil, sizeLine_eq]; omega)); k_whole); intro D' h' F' N' l1; (try k_lt l1); (try simp only [List.toList_toArray] at N'); (try k_sweep))
    k_with "use" => (refine Stop.out ?_)
    k_steps
    rename_i P1 hq1 lq1 t1L hq2 lq2 CH hq3 lq3 P0 hq4 lq4 t0L hq5 lq5 DTq hq6 lq6 hq7 Fq Nq hq8 hq9 F3 N3
    clear Fq Nq lq2 lq5 lq6
    refine Stop.mk ?_
    obtain ⟨st2, hst2, N4⟩ := permD N3
    clear N3
    have b1 := ltN lq1.2.2.1
    have b2 := ltN lq3.2.2.2.2.1
    have b3 := ltN lq4.2.2.2.2.2.1
    have b4 := ltN l1.2.2.2.2.2.2.2.1
    clear lq1 lq3 lq4 l1
    have h2B : ∀ p ∈ st2, p.1 ≠ lB := off_st' hst2 (Nat.ne_of_gt b3) (Nat.ne_of_gt b1) hstB
    have g1 : P0 ≠ s1.heap.objs.size + 1 + 1 + 1 + 1 + 1 := neN (by omega)
    have g2 : P1 ≠ s1.heap.objs.size + 1 + 1 + 1 + 1 + 1 := neN (by omega)
    have g3 : P0 ≠ 150 := neN (by omega)
    have g4 : P1 ≠ 150 := neN (by omega)
    have h25 : ∀ p ∈ st2, p.1 ≠ s1.heap.objs.size + 1 + 1 + 1 + 1 + 1 := off_st' hst2 g1 g2 hst5
    have h2t : ∀ p ∈ st2, p.1 ≠ 150 := off_st' hst2 g3 g4 hstt
    clear g1 g2 g3 g4
    have hCH : All2 (PairIn st2) (cvs ++ [.ref P1]) (chancesZ n va vb) := by
      rw [← chancesZ_last hn1]
      exact (hcv.mono fun _ _ => PairIn.mono fun p hp => by rw [hst2]; exact List.mem_cons_of_mem _ (List.mem_cons_of_mem _ hp)).append (.cons ⟨P1, _, _, _, rfl, by rw [hst2]; k_mem⟩ .nil)
    have hRD : All2 (PairIn st2) (rvs ++ [.ref P0]) (roundsZ n va vb) := by
      rw [← roundsZ_last hn1]
      exact (hrv.mono fun _ _ => PairIn.mono fun p hp => by rw [hst2]; exact List.mem_cons_of_mem _ (List.mem_cons_of_mem _ hp)).append (.cons ⟨P0, _, _, _, rfl, by rw [hst2]; k_mem⟩ .nil)
    clear hst2 hcv hrv hstB hst5 hstt b1 b3
    have hbs : Sm ((n : Int) - 1) = true := by rcases hn34 with rfl | rfl <;> rfl
    k_dflt (refine' useCoin F3 N4 ?W ?hS hI ?h0 ?h1 ?hb hlen5 hbs ?k1 ?k3 ?k5 ?kK ?kd ?ku ?_)
    case W => walk_at "without"
    case hS => k_mem
    case h0 => decide
    case h1 => decide
    case hb => omega
    walk_at "use"
    intro c4 t4 t4' h8 tk8 c40 c41 F8 N8
    k_steps
    refine Stop.mk ?_
    obtain ⟨kb, hkb⟩ : ∃ kb : Nat, 1 + c4 = kb := ⟨(1 + c4).toNat, by omega⟩
    rw [hkb]
    have hkb1 : 1 ≤ kb ∧ kb < n := by omega
    clear hkb c40 c41
    k_dflt (refine' use (grid_ok hn34 ha4 hb4) ?k1 F8 ?k3 N8 ?k5 ?kK ?kd ?ku ?_)
    walk_at "use"
    rintro _ _ h9 tk9 ⟨Gd, vg, cg, tlg, rfl, rfl, hallg, hapg⟩ F9 N9
    obtain ⟨st3, hst3, N10⟩ := permG N9
    have hapt : Apart tlg _ := fun p hp q hq => hapg p (List.mem_cons_of_mem _ hp) q hq
    have h3B : ∀ p ∈ st3, p.1 ≠ lB := off_st3 hst3 (fun p hp => hapt p hp (lB, _) (by k_mem)) h2B
    have h35 : ∀ p ∈ st3, p.1 ≠ s1.heap.objs.size + 1 + 1 + 1 + 1 + 1 := off_st3 hst3 (fun p hp => hapt p hp (_, o4) (by k_mem)) h25
    have h3t : ∀ p ∈ st3, p.1 ≠ 150 := off_st3 hst3 (fun p hp => hapt p hp (150, tabObj #[]) (by k_mem)) h2t
    have g1 := neN (hapg (Gd, _) (by k_mem) (lB, _) (by k_mem))
    have g2 := neN (hapg (Gd, _) (by k_mem) (_, o4) (by k_mem))
    have g3 := neN (hapg (Gd, _) (by k_mem) (150, tabObj #[]) (by k_mem))
    dsimp only at g1 g2 g3
    have hallG : All2 (IntRowIn st3) vg (gridZ n va vb) := hallg.mono fun _ _ => IntRowIn.mono fun p hp => by rw [hst3]; exact List.mem_append_left _ hp
    have hCH3 : All2 (PairIn st3) (cvs ++ [.ref P1]) (chancesZ n va vb) := hCH.mono fun _ _ => PairIn.mono fun p hp => by rw [hst3]; exact List.mem_append_right _ hp
    have hRD3 : All2 (PairIn st3) (rvs ++ [.ref P0]) (roundsZ n va vb) := hRD.mono fun _ _ => PairIn.mono fun p hp => by rw [hst3]; exact List.mem_append_right _ hp
    clear hapt hapg hallg hst3 hCH hRD h2B h25 h2t N9 N8 F8
    obtain ⟨rb, cb, hrb, hcb, hpl⟩ := plays_ok hn34 ha4 hb4 hkb1
    have hrb' : (roundsZ n va vb)[((kb : Nat) : Int).toNat]? = some rb := by rw [Int.toNat_natCast]; exact hrb
    k_with "comp" => walk_at "go comp"
    k_with "comp src" => (
      k_dflt (refine comp_range (n := n + 1) (J := fun base i zs nx => nx = base ∧ IntsAre zs ((unitW n kb).take i)) (by rfl) (by assumption) (by assumption) (by assumption) (small_one (by omega) (by omega) (by omega) (by omega)) (by rw [rangeSize_nat]; omega) (by rw [sizeLine_eq]; omega) ⟨rfl, .nil⟩ ?zt ?zf)
      (case' zt =>
        intro j t5 I5 oI5 C5 oC5 D5 m5 zs5 nx5 h5 tk5 E5 hj hJ5 hoC5 hx5 F5 N5 off5
        refine post_gen fun Qz hQz => ?_
        obtain ⟨rfl, hz5⟩ := hJ5
        simp only [Int.zero_add] at hx5)
      (case' zf =>
        intro D5 h5 tk5 zs5 nx5 F5 N5 o5 hJ5
        obtain ⟨rfl, hz5⟩ := hJ5
        rw [List.take_of_length_le (Nat.le_of_eq unitW_len)] at hz5))
    k_with "for" => walk_at "go for"
    k_with "sub" => (refine sub_pair (by assumption) (by k_mem) hRD3 (by omega) (by omega) hrb' ?_; intro aP tP uP cP hmP)
    k_steps
    rotate_left
    · exact hQz _ _ (zend _ (by assumption) (by assumption) (fun p hp => hp) off5 ⟨rfl, ints_snoc hz5 (by rw [unitW_get hj, if_pos (by omega)])⟩)
    · exact hQz _ _ (zend _ (by assumption) (by assumption) (fun p hp => hp) off5 ⟨rfl, ints_snoc hz5 (by rw [unitW_get hj, if_neg (by omega)])⟩)
    refine Stop.mk ?_
    rename News _ _ _ _ => N11
    rename Fr _ _ _ _ => F11
    rename _ = Data.cell (some (Value.int (kb : Int) _)) => d5
    replace N11 := permE N11
    have g4 := neN (Ne.symm (o5 (lB, _) (by k_mem)))
    have g5 := neN (Ne.symm (o5 (150, tabObj #[]) (by k_mem)))
    dsimp only at g4 g5
    clear o5
    k_dflt (refine' useCoin F11 N11 ?W ?hS hI ?h0 ?h1 (by decide) hlen5 (by decide) ?k1 ?k3 ?k5 ?kK ?kd ?ku ?_)
    case W => walk_at "without"
    case hS => k_mem
    case h0 => decide
    case h1 => decide
    walk_at "use"
    intro c5 t9 t9' h12 tk12 c50 c51 F12 N12
    k_steps
    rename_i Fq Nq hqq tkq tr1 tr2 tr3 hRg F13 N13 hK13
    clear Fq Nq hK13
    obtain ⟨fix2, hfix2, N14⟩ := permF N13
    have hGd : (Gd, listOf vg.toArray cg) ∈ fix2 := by rw [hfix2]; k_mem
    have hCHm : (CH, listOf (cvs ++ [Value.ref P1]).toArray 0) ∈ fix2 := by rw [hfix2]; k_mem
    have hRDm : (D', listOf (rvs ++ [Value.ref P0]).toArray 0) ∈ fix2 := by rw [hfix2]; k_mem
    have hD5m : (D5, listOf zs5.toArray zs5.length) ∈ fix2 := by rw [hfix2]; exact List.mem_cons_self
    have hstF : ∀ p ∈ st3, p ∈ fix2 := fun p hp => by rw [hfix2]; walk_at "mem"
    have hCt : CH ≠ 150 := neN (by omega)
    have hDt : D' ≠ 150 := neN (by omega)
    have hf2 : ∀ p ∈ fix2, p.1 ≠ 150 := by
      rw [hfix2]
      exact List.forall_mem_cons.mpr ⟨Ne.symm (Ne.symm g5), List.forall_mem_cons.mpr ⟨g3, List.forall_mem_cons.mpr ⟨hCt, List.forall_mem_cons.mpr ⟨hDt, h3t⟩⟩⟩⟩
    have hallG2 : All2 (IntRowIn fix2) vg (gridZ n va vb) := hallG.mono fun _ _ => IntRowIn.mono hstF
    have hCH4 : All2 (PairIn fix2) (cvs ++ [.ref P1]) (chancesZ n va vb) := hCH3.mono fun _ _ => PairIn.mono hstF
    have hRD4 : All2 (PairIn fix2) (rvs ++ [.ref P0]) (roundsZ n va vb) := hRD3.mono fun _ _ => PairIn.mono hstF
    have hPr : PairIn fix2 (.ref aP) rb := ⟨aP, tP, uP, cP, rfl, hstF _ hmP⟩
    clear hfix2 N13 hallG hCH3 hRD3 hmP hstF hCt hDt h3B h35 h3t g1 g2 g3 g4 g5 b2 b4 hbs hrb'
    refine for_range (n := (2 + c5).toNat) (J := fun m₀ base i m nx => ∃ ps ws cW wi li W D tl oq tq, nx = (150, tabObj (List.toArray ps)) :: (s1.heap.objs.size + 1 + 1 + 1 + 1 + 1, oq) :: (s1.heap.objs.size + 1 + 1 + 1, oB) :: (s1.heap.objs.size + 1 + 1, oA) :: (s1.heap.objs.size + 1, oS) :: (tl ++ fix2) ∧ oq.data = .cell (some (.int (kb : Int) tq)) ∧ playsO n va vb (unitW n kb, rb) cb i = some (wi, li) ∧ (W, listOf ws.toArray cW) ∈ tl ++ fix2 ∧ IntsAre ws wi ∧ PairIn (tl ++ fix2) (.ref D) li ∧ TabOK ps lamA lamB lamQ (tl ++ fix2) ∧ (∀ p ∈ tl, p.1 ≠ 150) ∧
      Holds [(Str.ofString "weights", .ref W), (Str.ofString "left", .ref D), (Str.ofString "grid", .ref Gd), (Str.ofString "chances", .ref CH), (Str.ofString "rounds", .ref D')] m) (by first | assumption | passes_own) (by rfl) hRg (small_one (by omega) (by omega) (by omega) (by omega)) (by rw [rangeSize_nat]; omega) F13 N14 ?h0 ?turn ?done
    case h0 => exact ⟨[], zs5, _, _, _, D5, aP, [], _, _, rfl, d5, rfl, hD5m, hz5, hPr, TabOK.nil, (fun _ h => nomatch h), by walk_at "holds"⟩
    case turn =>
      clear N14 F13 hRg hz5 hPr hD5m
      clear x172 x171 x166 x165 x164 x157 x156 x154 x153 x152 x151 x150 x144 x143 x142 x141 x140 x139 x138 x137
      repeat (first | exact hP.out | (rename _ => hX; revert hX))
    case done =>
      clear N14 F13 hRg hz5 hPr hD5m hallG2 hCH4 hRD4 hGd hCHm hRDm d5 hpl hcb hrb
      repeat (first | exact hQ.out | (rename _ => hX; revert hX))

set_option maxHeartbeats 2000000 in
theorem turn2 : cutC.1 := by
  delta cutC
  dsimp only
  k_fill
  intros
  rename_i w s0 s1 mg mb fa x257 x256 x255 x254 x253 x252 x251 x250 x249 script x247 x246 x245 x244 x243 x242 x241 x240 x239 x238 x237 x236 X' T' K' x232 codeHd l0 DS x228 x227 x226 x225 x224 lB x222 x221 x220 x219 x218 x217 x216 x215 x214 x213 x212 x211 x210 x209 x208 x207 oS x205 n dS hn34 x201 x200 x199 x198 x197 x196 x195 x194 x193 x192 x191 x190 x189 x188 oA x186 oB x184 va dA vb dB ha4 hb4 x177 x176 x175 x174 x173 x172 x171 x170 x169 x168 x167 x166 x165 x164 x163 x162 hn20 x160 x159 x158 x157 x156 x155 x154 x153 x152 x151 x150 x149 x148 x147 x146 x145 x144 x143 x142 x141 x140 x139 x138 x137 x136 x135 x134 x133 x132 x131 x130 x129 x128 x127 x126 x125 x124 x123 x122 x121 x120 x119 x118 x117 cvs cc rvs cd x112 x111 hn1 x109 x108 x107 P1 x105 x104 x103 CH x101 P0 x99 x98 x97 RD x95 x94 x93 x92 x91 x90 x89 x88 x87 x86 x85 x84 x83 kb hkb1 x80 x79 Gd vg cg x75 x74 rb cb hrb hcb hpl x68 x67 x66 x65 x64 x63 x62 x61 x60 x59 x58 x57 x56 x55 x54 x53 x52 x51 x50 zs5 x48 x47 x46 x45 x44 x43 x42 x41 x40 x39 x38 x37 x36 c5 x34 x33 x32 x31 c50 c51 x28 x27 x26 x25 x24 fix2 hGd hCHm hRDm hf2 hallG2 hCH4 hRD4 I oI i t m1 nx s2 Q1 E1 hE1 hI hi hJ hoff F1 N1
  refine turn_gen fun Qt hQt => ?_
  obtain ⟨ps, ws, cW, wi, li, W, D, tl, oq, tq, rfl, hd5, hpi, hW, hws, hD, hT, ht, hm⟩ := hJ
  obtain ⟨q1, q2, hs1, hs2, hs3⟩ := playsO_step hpl i (by omega)
  rw [hpi] at hs1
  obtain rfl := Option.some.inj hs1
  obtain ⟨w2, l2⟩ := q2
  obtain ⟨d, y, hl1, hl2, hw2, hnx, hlen, htog, hsum, hty, htc⟩ := playO_some hs2
  dsimp only at hl1 hl2 hw2 hnx hlen htog hsum hty htc
  obtain ⟨aD, tD, uD, cD0, eD, hDm⟩ := hD
  cases eD
  have htf : ∀ p ∈ tl ++ fix2, p.1 ≠ 150 := fun p hp => (List.mem_append.mp hp).elim (ht p) (hf2 p)
  have hI5 : I ≠ 150 := by simpa [eq_comm] using hoff _ List.mem_cons_self
  replace hI5 := neN hI5
  clear hI hpi hs2 hpl ht
  obtain ⟨u8, F2⟩ := holds_fr hm F1
  clear F1 hm
  dsimp only [mapC] at F2
  simp only [List.cons_append, List.nil_append, Int.zero_add] at N1 ⊢
  have hi4 : i < 4 := by omega
  clear c50 c51 hi
  (try dsimp only)
  (try k_unmd)
  (try k_fold)
  k_with_none
  k_with "lambda" => (refine Stop.out ?_)
  k_with "slice" => (k_dflt (refine' kmk_slice_ints (ms := (wi.drop 1).take (n - 1)) ?sF ?sN ?sl ?slo ?shi hws ?sm rfl ?_ ?ss ?st ?sz; (case sF => k_asm); (case sN => k_asm); (case sl => exact newsList (by k_asm) (by k_mem)); (case slo => kmk_part); (case shi => kmk_part); (case sm => exact run_played hws hlen); (case ss => with_unfolding_all rfl); (case st => kmk_pure); (case sz => (rw [List.size_toArray, hws.length, hlen, sizeLine_eq]; omega)); k_whole); intro D' ws' h' F' N' l1 hI' hC' hL'; (try k_lt l1); (try k_sweep))
  k_steps
  refine Stop.mk ?_
  rename_i O1 hO F3 N3 lO
  have N4 := news_put N3 (news_tail (news_tail N3))
  clear N3 l1
  k_dflt (refine kla_eval rfl ?_)
  k_dflt (refine' lam_any F3 N4 ?W T' codeHd ?cd ?tt ?cl ?_)
  case W => walk_at "without"
  case cd => exact rfl
  case cl => exact rfl
  case tt => exact hT
  intro f1 c1 ctv1 ps1 ex1 hh1 tk1 F4 N5 hT1 hc1 hlt1 hex1 hof1
  k_steps
  refine Stop.mk ?_
  k_dflt (refine kla_eval rfl ?_)
  k_dflt (refine' lam_any (by k_asm) (by k_asm) ?W T' codeHd ?cd ?tt ?cl ?_)
  case W => exact Without.tail (Nat.ne_of_gt (hlt1 _ List.mem_cons_self)) (Without.head hof1)
  case cd => exact rfl
  case cl => exact rfl
  case tt => exact hT1.swap
  intro f2 c2 ctv2 ps2 ex2 hh2 tk2 F5 N6 hT2 hc2 hlt2 hex2 hof2
  obtain ⟨tlx, htlx, N7⟩ := permL N6
  clear N6
  have htt : TabOK ps2 lamA lamB lamQ (tlx ++ fix2) := hT2.swap.mono fun p hp => by rw [htlx, List.append_assoc, List.append_assoc]; exact hp
  have hcc1 := hc1.mono (news' := tlx ++ fix2) fun p hp => by rw [htlx, List.append_assoc, List.append_assoc]; exact List.mem_append_right _ hp
  have hcc2 := hc2.mono (news' := tlx ++ fix2) fun p hp => by rw [htlx, List.append_assoc, List.append_assoc]; exact hp
  have hDm' : (D, _) ∈ tlx ++ fix2 := (List.mem_append.mp hDm).elim (fun h => by rw [htlx]; exact List.mem_append_left _ (List.mem_append_right _ (List.mem_append_right _ h))) (fun h => List.mem_append_right _ h)
  have hW' : (W, _) ∈ tlx ++ fix2 := (List.mem_append.mp hW).elim (fun h => by rw [htlx]; exact List.mem_append_left _ (List.mem_append_right _ (List.mem_append_right _ h))) (fun h => List.mem_append_right _ h)
  have htx5 : ∀ p ∈ tlx, p.1 ≠ 150 := fun p hp => by
    rw [htlx] at hp
    rcases List.mem_append.mp hp with hp | hp
    · exact (hex2 p hp).1
    · rcases List.mem_append.mp hp with hp | hp
      · exact (hex1 p hp).1
      · exact htf p (List.mem_append_left _ hp)
  have htxI : ∀ p ∈ tlx, p.1 ≠ I := fun p hp => by
    rw [htlx] at hp
    rcases List.mem_append.mp hp with hp | hp
    · exact Nat.ne_of_gt ((hex2 p hp).2 (I, oI) (by walk_at "mem"))
    · rcases List.mem_append.mp hp with hp | hp
      · exact Nat.ne_of_gt ((hex1 p hp).2 (I, oI) (by walk_at "mem"))
      · exact fun e => hoff p (by walk_at "mem") (List.mem_singleton.mpr e)
  clear htlx hT1 hT2 hc1 hc2 hlt1 hlt2 hex1 hex2 hof1 hof2 hDm hW lO htf
  k_with "use" => (refine Stop.out ?_)
  k_steps
  refine Stop.mk ?_
  obtain ⟨g0, hg0, hg0l⟩ := gridZ_0 (n := n) (a := va) (b := vb)
  have hgl := gridZ_len (n := n) (a := va) (b := vb)
  k_dflt (refine' use (prod_ok (List.mem_cons_self) (by walk_at "mem") hws (by walk_at "mem") (fun p hp => by walk_at "mem") hallG2 (ops_of (List.mem_cons_of_mem _ List.mem_cons_self) (hcc1.mono fun p hp => by walk_at "mem") (List.mem_cons_of_mem _ (List.mem_cons_of_mem _ List.mem_cons_self)) (hcc2.mono fun p hp => by walk_at "mem")) (fun _ h => h) hg0 (by rw [hlen, hgl]) (by rw [hgl]; omega) (by rw [hg0l]; omega) (res := w2) (by rw [hw2, nextW_len, hlen, hg0l]) (fun i z hz => nextW_get hnx i z (by rw [← hw2]; exact hz))) ?k1 F5 ?k3 N7 ?k5 ?kK ?kd ?ku ?_)
  walk_at "use"
  rintro _ _ h10 tk10 ⟨Fd, cF, Dw, zs, cDw, rfl, rfl, hzs, hFD, hoFD⟩ F10 N10
  replace N10 := news_put N10 (news_put (news_tail N10) (news_tail (news_tail (news_tail (news_tail (news_tail N10))))))
  have hwI := neN (Ne.symm (hoFD (I, oI) (by walk_at "mem")).2)
  have hw5 := neN (Ne.symm (hoFD (150, _) (by walk_at "mem")).2)
  dsimp only at hwI hw5
  have hw2l : w2.length = n + 1 := by rw [hw2, nextW_len, hlen]
  have hwr : w2.length = (roundsZ n va vb).length := by rw [hw2l, roundsZ_len hn1]
  have hwc : w2.length = (chancesZ n va vb).length := by rw [hw2l, chancesZ_len hn1]
  have hw20 : w2.length < 2 ^ 20 := by omega
  rw [← hw2l] at htog htc
  have hab64 : (va + vb).natAbs < 2 ^ 64 := by omega
  have hpw : ((i : Int) + 1).toNat = i + 1 := by omega
  have hcb' : (chancesZ n va vb)[((kb : Nat) : Int).toNat]? = some cb := by rw [Int.toNat_natCast]; exact hcb
  clear hoFD hcc1 hcc2 hW' hws hnx hw2 hg0 hg0l hgl hallG2 ha4 hb4 hcb hrb hn34
  k_with "use" => (k_dflt first
    | ((with_reducible show wpAny _ _ (call (Value.ref 84) _) _ _ _); refine' usePair (by k_asm) (by k_asm) (less_ok (by k_mem) (by k_mem) hl1) ?k1 ?k3 ?k5 ?kK ?kd ?ku ?_; walk_at "usePair")
    | ((with_reducible show wpAny _ _ (call (Value.ref 77) _) _ _ _); refine' usePair (by k_asm) (by k_asm) (times_ok (by k_mem) (by k_mem) hl2) ?k1 ?k3 ?k5 ?kK ?kd ?ku ?_; walk_at "usePair")
    | ((with_reducible show wpAny _ _ (call (Value.ref 77) _) _ _ _); refine' usePair (by k_asm) (by k_asm) (times_ok (by k_mem) (by k_mem) hty) ?k1 ?k3 ?k5 ?kK ?kd ?ku ?_; walk_at "usePair")
    | (refine' usePair (by k_asm) (by k_asm) (together_ok (by k_mem) hzs (by k_mem) (fun p hp => by walk_at "mem") hRD4 hwr hw20 htog) ?k1 ?k3 ?k5 ?kK ?kd ?ku ?_; walk_at "usePair")
    | (refine' usePair (by k_asm) (by k_asm) (together_ok (by k_mem) hzs (by k_mem) (fun p hp => by walk_at "mem") hCH4 hwc hw20 htc) ?k1 ?k3 ?k5 ?kK ?kd ?ku ?_; walk_at "usePair"))
  k_with "pow" => (with_reducible refine pow_int_small (by omega) (by omega) hab64 ?_; rw [hpw])
  k_with "ne" => (refine Stop.out ?_)
  k_with "ite" => first | (refine ite_neg (by decide) ?_) | (refine ite_pos (by decide) ?_) | (refine ite_pos True.intro ?_) | (refine ite_neg (by simp [hsum]) ?_) | (refine Stop.out ?_)
  k_with "sub" => (refine sub_pair (by assumption) (by k_mem) hCH4 (by omega) (by omega) hcb' ?_; intro aP tP uP cP hmP)
  k_steps
  refine Stop.mk ?_
  rename_i Lf tL uL cL hL tkL lL qkL ekL hhL Dg tg ug cg2 hg tkg Fg Ng lg
  have hLI := neN (Nat.ne_of_gt lL.2.2.2.2.2.1)
  have hL5 := neN (Nat.ne_of_gt lL.2.2.2.2.2.2.1)
  k_dflt (refine pair_ne (x := l2) Ng (fun _ h => h) (fun _ h => h) ⟨_, _, _, _, rfl, List.mem_cons_self⟩ ⟨Lf, tL, uL, cL, rfl, List.mem_cons_of_mem _ List.mem_cons_self⟩ (by ke_room) ?_)
  have Nk := news_put (news_tail Ng) (news_tail (news_tail (news_tail (news_tail (news_tail (news_tail Ng))))))
  clear Ng lg lL
  k_steps
  refine Stop.mk ?_
  rename News _ _ _ _ => Nm
  k_dflt (refine pair_ne (x := y) Nm (fun _ h => h) (fun _ h => h) ⟨_, _, _, _, rfl, by k_mem⟩ ⟨_, _, _, _, rfl, List.mem_cons_self⟩ (by ke_room) ?_)
  have Nt := permT (news_tail (news_tail (news_tail Nm)))
  clear Nm
  k_steps
  refine hQt _ _ (tend _ (by assumption) Nt (fun p hp => hp) (fun p hp => ?_) ⟨(fun _ h => nomatch h), ps2, zs, cDw, w2, l2, Dw, Lf, (Lf, pairO l2 tL uL cL) :: (Dw, listOf zs.toArray cDw) :: tlx, oq, tq, rfl, hd5, hs3, List.mem_append_left _ (List.mem_cons_of_mem _ List.mem_cons_self), hzs, ⟨Lf, tL, uL, cL, rfl, List.mem_append_left _ List.mem_cons_self⟩, htt.mono (fun p hp => ?_), (fun p hp => ?_), by walk_at "holds"⟩)
  · simp only [List.mem_cons, List.mem_append] at hp
    rcases hp with h | h | h | h | h | (h | h | h) | h
    · rw [h]; exact hoff (150, tabObj ps.toArray) List.mem_cons_self
    · exact hoff p (by simp only [List.mem_cons, h, true_or, or_true])
    · exact hoff p (by simp only [List.mem_cons, h, true_or, or_true])
    · exact hoff p (by simp only [List.mem_cons, h, true_or, or_true])
    · exact hoff p (by simp only [List.mem_cons, h, true_or, or_true])
    · rw [h]; exact fun e => hLI (List.mem_singleton.mp e)
    · rw [h]; exact fun e => hwI (List.mem_singleton.mp e)
    · exact fun e => htxI p h (List.mem_singleton.mp e)
    · exact hoff p (by simp only [List.mem_cons, List.mem_append, h, or_true])
  · rcases List.mem_append.mp hp with h | h
    · exact List.mem_append_left _ (List.mem_cons_of_mem _ (List.mem_cons_of_mem _ h))
    · exact List.mem_append_right _ h
  · rcases List.mem_cons.mp hp with h | hp
    · rw [h]; exact hL5
    · rcases List.mem_cons.mp hp with h | hp
      · rw [h]; exact hw5
      · exact htx5 p hp

set_option maxHeartbeats 2000000 in
theorem done2 : cutC.2.1 := by
  delta cutC
  dsimp only
  k_fill
  intros
  rename_i mm nx hh tk0 hJ F1 N1
  obtain ⟨ps, ws, cW, wi, li, W, D, tl, oq, tq, rfl, hd5, hpl, hW, hws, hD, hT, ht, hm⟩ := hJ
  clear hd5 hpl hW hws hD hT ht
  obtain ⟨u8, F2⟩ := holds_fr hm F1
  clear F1 hm
  dsimp only [mapC] at F2
  k_with_none
  (try dsimp only)
  (try k_unmd)
  (try k_fold)
  k_steps

end Mine
theorem PySem.Challenge.cw_xm0024_01_holds : PySem.Challenge.rw_xm0024_01.Holds :=
  Mine.cutA.2 ⟨Mine.cutB.2.2 ⟨Mine.turn1⟩ ⟨Mine.cutC.2.2 ⟨Mine.turn2⟩ ⟨Mine.done2⟩⟩⟩
