import PyProof.Rows.All
import Wide.All
import OpenK.AllK
import Wide.FinOn
import PyProof.ExcBaseAll.Exception
import PyProof.ExcInit
import PyProof.FactsAll.tuple_2
import PySem.Challenge.RW_sm0039_01
open PySem PySem.W PyProof.Rows PySem.Spec PySem.Calls
set_option Elab.async false
set_option rowWalk.seconds 0
namespace Mine
local macro_rules | `(tactic| walk_at $s:str) => `(tactic| k_extra $s)
local macro_rules | `(tactic| k_mem) => `(tactic| walk_at "m_mem")
section
set_option maxRecDepth 100000
/-- the whole text but the three lists that are read as tables -/
def seenText : Program := PySem.W.view PySem.Challenge.pw_sm0039_01 ((List.range 79).filter fun i => ! (match PySem.Challenge.pw_sm0039_01.main.body[i]? with | some (.Assign [.Name n _] _ _) => n == Str.ofString "OPERATIONS" || n == Str.ofString "LAST_OPS" || n == Str.ofString "QUIET_OPS" | _ => false))
theorem seen_len : seenText.main.body.length = 76 := by decide +kernel
theorem left_of_run {p q : Program} {loose : List Str} {Xt : Shared → Bool} {α : Type} {Yf : Shared → α} {Ya : World → α} {N : Nat}
    (e : opening p = plainProg p.main.scope.names) (hN : Nat.ble 600 N = true) (f : ∀ s, fenceModules? p s = some s)
    (h : ∀ (w : World) (os : OsState), (topFrom treeTable p w N ⟨boot_heap w.params, #[], boot_drawn, boot_toks, os⟩).map (fun s => (openSeen q loose (importedModules p.main.body) Xt true s, Yf s)) = some (openGood q loose, Ya w)) :
    LeftO p q loose Xt Yf Ya N := fun w => by
  obtain ⟨⟨h', gs, d, k, os⟩, e1, e2⟩ := Option.map_eq_some_iff.mp (boot_open e hN f w)
  obtain ⟨rfl, rfl, rfl, rfl⟩ : h' = boot_heap w.params ∧ gs = #[] ∧ d = boot_drawn ∧ k = boot_toks := by simpa using e2
  unfold openEnds
  rw [e1]
  exact h w os
theorem map_pair {σ α β : Type} {o : Option σ} {f : σ → α} {g : σ → β} {a : α} {b : β} (h1 : o.map f = some a) (h2 : o.map g = some b) : o.map (fun s => (f s, g s)) = some (a, b) := by
  cases o with
  | none => cases h1
  | some s =>
    simp only [Option.map_some, Option.some.injEq] at h1 h2 ⊢
    rw [h1, h2]
/-- nine looks at one run, from three runs -/
theorem nine {σ α₁ α₂ α₃ α₄ α₅ α₆ α₇ α₈ α₉ : Type} {o : Option σ} {F : σ → α₁ × α₂ × α₃ × α₄ × α₅ × α₆ × α₇ × α₈ × α₉} {a₁ : α₁} {a₂ : α₂} {a₃ : α₃} {a₄ : α₄} {a₅ : α₅} {a₆ : α₆} {a₇ : α₇} {a₈ : α₈} {a₉ : α₉}
    (hA : o.map (fun s => ((F s).1, (F s).2.1, (F s).2.2.2.1)) = some (a₁, a₂, a₄)) (hB : o.map (fun s => (F s).2.2.1) = some a₃) (hC : o.map (fun s => ((F s).2.2.2.2.1, (F s).2.2.2.2.2.1, (F s).2.2.2.2.2.2.1, (F s).2.2.2.2.2.2.2.1, (F s).2.2.2.2.2.2.2.2)) = some (a₅, a₆, a₇, a₈, a₉)) :
    o.map F = some (a₁, a₂, a₃, a₄, a₅, a₆, a₇, a₈, a₉) := by
  cases o with
  | none => cases hB
  | some s =>
    simp only [Option.map_some, Option.some.injEq, Prod.mk.injEq] at hA hB hC ⊢
    obtain ⟨h1, h2, h4⟩ := hA
    obtain ⟨h5, h6, h7, h8, h9⟩ := hC
    subst h1 h2 hB h4 h5 h6 h7 h8 h9
    rfl
set_option maxHeartbeats 0 in
theorem ran_A : ∀ (w : World) (os : OsState), (topFrom treeTable PySem.Challenge.rw_sm0039_01.row.prog w 4844 ⟨boot_heap w.params, #[], boot_drawn, boot_toks, os⟩).map (fun s => ((openSeen seenText [Str.ofString "OPERATIONS", Str.ofString "LAST_OPS", Str.ofString "QUIET_OPS"] (importedModules PySem.Challenge.rw_sm0039_01.row.prog.main.body) (fun s => xlAt seenText [] s && recOk PySem.Challenge.rw_sm0039_01.row.records s) true s).1, (openSeen seenText [Str.ofString "OPERATIONS", Str.ofString "LAST_OPS", Str.ofString "QUIET_OPS"] (importedModules PySem.Challenge.rw_sm0039_01.row.prog.main.body) (fun s => xlAt seenText [] s && recOk PySem.Challenge.rw_sm0039_01.row.records s) true s).2.1, (openSeen seenText [Str.ofString "OPERATIONS", Str.ofString "LAST_OPS", Str.ofString "QUIET_OPS"] (importedModules PySem.Challenge.rw_sm0039_01.row.prog.main.body) (fun s => xlAt seenText [] s && recOk PySem.Challenge.rw_sm0039_01.row.records s) true s).2.2.2.1)) = some ((expectedOf seenText, bltViewBooted, true)) := by
  intro w os
  unfold topFrom
  rw [PySem.W.Fast.te14082659384304107361, PySem.W.Fast.te14364793385576792824, PySem.W.Fast.te8920871248978507458, PySem.W.Fast.te4187177175401517315]
  kernel_rfl
set_option maxHeartbeats 0 in
theorem ran_B : ∀ (w : World) (os : OsState), (topFrom treeTable PySem.Challenge.rw_sm0039_01.row.prog w 4844 ⟨boot_heap w.params, #[], boot_drawn, boot_toks, os⟩).map (fun s => (openSeen seenText [Str.ofString "OPERATIONS", Str.ofString "LAST_OPS", Str.ofString "QUIET_OPS"] (importedModules PySem.Challenge.rw_sm0039_01.row.prog.main.body) (fun s => xlAt seenText [] s && recOk PySem.Challenge.rw_sm0039_01.row.records s) true s).2.2.1) = some (true) := by
  intro w os
  unfold topFrom
  rw [PySem.W.Fast.te14082659384304107361, PySem.W.Fast.te14364793385576792824, PySem.W.Fast.te8920871248978507458, PySem.W.Fast.te4187177175401517315]
  kernel_rfl
set_option maxHeartbeats 0 in
theorem ran_C : ∀ (w : World) (os : OsState), (topFrom treeTable PySem.Challenge.rw_sm0039_01.row.prog w 4844 ⟨boot_heap w.params, #[], boot_drawn, boot_toks, os⟩).map (fun s => ((openSeen seenText [Str.ofString "OPERATIONS", Str.ofString "LAST_OPS", Str.ofString "QUIET_OPS"] (importedModules PySem.Challenge.rw_sm0039_01.row.prog.main.body) (fun s => xlAt seenText [] s && recOk PySem.Challenge.rw_sm0039_01.row.records s) true s).2.2.2.2.1, (openSeen seenText [Str.ofString "OPERATIONS", Str.ofString "LAST_OPS", Str.ofString "QUIET_OPS"] (importedModules PySem.Challenge.rw_sm0039_01.row.prog.main.body) (fun s => xlAt seenText [] s && recOk PySem.Challenge.rw_sm0039_01.row.records s) true s).2.2.2.2.2.1, (openSeen seenText [Str.ofString "OPERATIONS", Str.ofString "LAST_OPS", Str.ofString "QUIET_OPS"] (importedModules PySem.Challenge.rw_sm0039_01.row.prog.main.body) (fun s => xlAt seenText [] s && recOk PySem.Challenge.rw_sm0039_01.row.records s) true s).2.2.2.2.2.2.1, (openSeen seenText [Str.ofString "OPERATIONS", Str.ofString "LAST_OPS", Str.ofString "QUIET_OPS"] (importedModules PySem.Challenge.rw_sm0039_01.row.prog.main.body) (fun s => xlAt seenText [] s && recOk PySem.Challenge.rw_sm0039_01.row.records s) true s).2.2.2.2.2.2.2.1, (openSeen seenText [Str.ofString "OPERATIONS", Str.ofString "LAST_OPS", Str.ofString "QUIET_OPS"] (importedModules PySem.Challenge.rw_sm0039_01.row.prog.main.body) (fun s => xlAt seenText [] s && recOk PySem.Challenge.rw_sm0039_01.row.records s) true s).2.2.2.2.2.2.2.2)) = some ((pinGoodD (drecsOf seenText), plainGoodE seenText (looseW seenText [Str.ofString "OPERATIONS", Str.ofString "LAST_OPS", Str.ofString "QUIET_OPS"]), plainGoodD seenText [Str.ofString "OPERATIONS", Str.ofString "LAST_OPS", Str.ofString "QUIET_OPS"], wideGood seenText, clsGoodW seenText [Str.ofString "OPERATIONS", Str.ofString "LAST_OPS", Str.ofString "QUIET_OPS"])) := by
  intro w os
  unfold topFrom
  rw [PySem.W.Fast.te14082659384304107361, PySem.W.Fast.te14364793385576792824, PySem.W.Fast.te8920871248978507458, PySem.W.Fast.te4187177175401517315]
  kernel_rfl
theorem ran_seen : ∀ (w : World) (os : OsState), (topFrom treeTable PySem.Challenge.rw_sm0039_01.row.prog w 4844 ⟨boot_heap w.params, #[], boot_drawn, boot_toks, os⟩).map (fun s => openSeen seenText [Str.ofString "OPERATIONS", Str.ofString "LAST_OPS", Str.ofString "QUIET_OPS"] (importedModules PySem.Challenge.rw_sm0039_01.row.prog.main.body) (fun s => xlAt seenText [] s && recOk PySem.Challenge.rw_sm0039_01.row.records s) true s) = some (openGood seenText [Str.ofString "OPERATIONS", Str.ofString "LAST_OPS", Str.ofString "QUIET_OPS"]) :=
  fun w os => nine (ran_A w os) (ran_B w os) (ran_C w os)
theorem well : PySem.Challenge.rw_sm0039_01.wellSaid = true := (congrFun PySem.W.Fast.te9446332074065402090 _).trans (by kernel_rfl)
theorem pays : PySem.Challenge.rw_sm0039_01.row.toRowW.promised := ⟨[WData.list [WData.int 0]], by decide +kernel, by decide +kernel⟩
local macro_rules | `(tactic| o_law) => `(tactic| refine holds_law well fun said => ?_)
local macro_rules | `(tactic| w_witness2) => `(tactic| exact pays)
local macro_rules | `(tactic| o_head $H) => `(tactic| (refine PySem.W.holds_open (q := seenText) (loose := [Str.ofString "OPERATIONS", Str.ofString "LAST_OPS", Str.ofString "QUIET_OPS"]) (Xt := fun s => xlAt seenText [] s && recOk PySem.Challenge.rw_sm0039_01.row.records s) (XP := XL seenText []) (Yf := Hook.obs $H) (Ya := Hook.val $H) (YP := Hook.says $H) (N := 4844) ?hl (Hook.of $H) (Hook.keeps $H) (fun s e => xl_of s (Bool.and_eq_true_iff.mp e).1) XL.keeps (by rfl) (by rfl) (by rfl) (fun s e => recFacts_of (Bool.and_eq_true_iff.mp e).2) (by rfl) (by first | assumption | decide +kernel) (by decide +kernel) ⟨rfl, rfl, rfl, rfl, rfl, by decide +kernel⟩ ?hw ?hc; (case hl => refine left_of_run (by rfl) (by rfl) (by intro s; rfl) fun w os => map_pair (ran_seen w os) ?_; unfold topFrom; rw [PySem.W.Fast.te14082659384304107361, PySem.W.Fast.te14364793385576792824, PySem.W.Fast.te8920871248978507458]; kernel_rfl)))
set_option maxHeartbeats 0
open_top hd for PySem.Challenge.rw_sm0039_01
end
theorem top_off : True := by
  w_top off
  trivial
local macro_rules | `(tactic| k_qdec) => `(tactic| decide +kernel)
section
set_option maxRecDepth 100000
inductive Ins where
  | this | pop | dup | swap | add | not | ret
  | jmp (t : Nat) | jf (t : Nat) | jfk (t : Nat) | jtk (t : Nat)
  deriving DecidableEq
namespace Ins
def op : Ins → Int
  | this => 5 | pop => 6 | dup => 7 | swap => 9 | add => 30 | not => 53 | ret => 65
  | jmp _ => 58 | jf _ => 59 | jfk _ => 61 | jtk _ => 62
def arg : Ins → Option Nat
  | jmp t => some t | jf t => some t | jfk t => some t | jtk t => some t
  | _ => none
def taken : Ins → Nat
  | this => 0 | pop => 1 | dup => 1 | swap => 2 | add => 2 | not => 1 | ret => 1
  | jmp _ => 0 | jf _ => 1 | jfk _ => 1 | jtk _ => 1
def put : Ins → Nat
  | this => 1 | pop => 0 | dup => 2 | swap => 2 | add => 1 | not => 1 | ret => 0
  | jmp _ => 0 | jf _ => 0 | jfk _ => 0 | jtk _ => 0
def last : Ins → Bool
  | ret => true | jmp _ => true | _ => false
def jump : Ins → Bool
  | jmp _ => true | jf _ => true | jfk _ => true | jtk _ => true
  | _ => false
def kind (i : Ins) : Str := if i.jump then Str.ofString "t" else Str.ofString ""
def keep : Ins → Bool
  | jfk _ => true | jtk _ => true | _ => false
end Ins
inductive ArgV : Option Nat → Value → Prop
  | none : ArgV none .none
  | int (t : Nat) (k : Tok) : ArgV (some t) (.int (t : Int) k)
abbrev tupO (vs : List Value) (n : Nat) : Obj := { cls := .type "tuple", data := .seq vs.toArray n }
inductive InsIn (news : List (Addr × Obj)) : Value → Ins → Prop
  | mk {x : Addr} {t : Tok} {av : Value} {n : Nat} {i : Ins} : (x, tupO [.int i.op t, av] n) ∈ news → ArgV i.arg av → InsIn news (.ref x) i
inductive All2 {α β : Type} (R : α → β → Prop) : List α → List β → Prop
  | nil : All2 R [] []
  | cons {a : α} {b : β} {as : List α} {bs : List β} : R a b → All2 R as bs → All2 R (a :: as) (b :: bs)
namespace All2
variable {α β : Type} {R S : α → β → Prop} {as as' : List α} {bs bs' : List β}
theorem length (h : All2 R as bs) : as.length = bs.length := by
  induction h with
  | nil => rfl
  | cons _ _ ih => simp [ih]
theorem mono (h : All2 R as bs) (f : ∀ a b, R a b → S a b) : All2 S as bs := by
  induction h with
  | nil => exact .nil
  | cons r _ ih => exact .cons (f _ _ r) ih
theorem append (h : All2 R as bs) (k : All2 R as' bs') : All2 R (as ++ as') (bs ++ bs') := by
  induction h with
  | nil => exact k
  | cons r _ ih => exact .cons r ih
theorem get (h : All2 R as bs) {i : Nat} {b : β} (e : bs[i]? = some b) : ∃ a, as[i]? = some a ∧ R a b := by
  induction h generalizing i with
  | nil => simp at e
  | cons r _ ih =>
    cases i with
    | zero => simp at e; subst e; exact ⟨_, rfl, r⟩
    | succ i => simp at e; simpa using ih e
theorem get' (h : All2 R as bs) {i : Nat} {a : α} (e : as[i]? = some a) : ∃ b, bs[i]? = some b ∧ R a b := by
  induction h generalizing i with
  | nil => simp at e
  | cons r _ ih =>
    cases i with
    | zero => simp at e; subst e; exact ⟨_, rfl, r⟩
    | succ i => simp at e; simpa using ih e
end All2
theorem InsIn.mono {news news' : List (Addr × Obj)} (hs : ∀ p ∈ news, p ∈ news') {v : Value} {i : Ins} (h : InsIn news v i) : InsIn news' v i := by
  cases h with
  | mk hm ha => exact .mk (hs _ hm) ha
structure CodeIn (news : List (Addr × Obj)) (C : Addr) (vs : List Value) (k : Nat) (code : List Ins) : Prop where
  obj : (C, listOf vs.toArray k) ∈ news
  all : All2 (InsIn news) vs code
theorem CodeIn.mono {news news' : List (Addr × Obj)} (hs : ∀ p ∈ news, p ∈ news') {C : Addr} {vs : List Value} {k : Nat} {code : List Ins} (h : CodeIn news C vs k code) : CodeIn news' C vs k code :=
  ⟨hs _ h.obj, h.all.mono fun _ _ r => r.mono hs⟩
/-- a stack of n values: a tuple of n times -1 -/
inductive Ones : List Value → Nat → Prop
  | nil : Ones [] 0
  | cons {t : Tok} {vs : List Value} {n : Nat} : Ones vs n → Ones (.int (-1) t :: vs) (n + 1)
namespace Ones
theorem length {vs : List Value} {n : Nat} (h : Ones vs n) : vs.length = n := by
  induction h with
  | nil => rfl
  | cons _ ih => simp [ih]
theorem append {vs ws : List Value} {n k : Nat} (h : Ones vs n) (g : Ones ws k) : Ones (vs ++ ws) (n + k) := by
  induction h with
  | nil => simpa using g
  | cons _ ih => rw [Nat.add_right_comm]; exact .cons ih
theorem take {vs : List Value} {n : Nat} (h : Ones vs n) : ∀ b, b ≤ n → Ones (vs.take b) b := by
  induction h with
  | nil => intro b hb; obtain rfl : b = 0 := by omega
           exact .nil
  | cons _ ih =>
    intro b hb
    cases b with
    | zero => exact .nil
    | succ b => rw [List.take_succ_cons]; exact .cons (ih b (by omega))
theorem drop {vs : List Value} {n : Nat} (h : Ones vs n) : ∀ a, a ≤ n → Ones (vs.drop a) (n - a) := by
  induction h with
  | nil => intro b hb; simp; exact .nil
  | cons h ih =>
    intro b hb
    cases b with
    | zero => exact .cons h
    | succ b => rw [List.drop_succ_cons, Nat.add_sub_add_right]; exact ih b (by omega)
theorem get {vs : List Value} {n : Nat} (h : Ones vs n) {i : Nat} {v : Value} (e : vs[i]? = some v) : ∃ t, v = .int (-1) t := by
  induction h generalizing i with
  | nil => simp at e
  | cons _ ih =>
    cases i with
    | zero => simp at e; exact ⟨_, e.symm⟩
    | succ i => simp at e; exact ih e
end Ones
inductive StkIn (news : List (Addr × Obj)) : Value → Nat → Prop
  | mk {x : Addr} {vs : List Value} {k n : Nat} : (x, tupO vs k) ∈ news → Ones vs n → StkIn news (.ref x) n
theorem StkIn.mono {news news' : List (Addr × Obj)} (hs : ∀ p ∈ news, p ∈ news') {v : Value} {n : Nat} (h : StkIn news v n) : StkIn news' v n := by
  cases h with
  | mk hm ha => exact .mk (hs _ hm) ha
/-- where a run goes on, with which height -/
def Ins.succs (i : Ins) (pc h : Nat) : List (Nat × Nat) :=
  (if i.last then [] else [(pc + 1, h - i.taken + i.put)]) ++ (match i.arg with | some t => [(t, if i.keep then h else h - i.taken + i.put)] | none => [])
inductive PairIn (news : List (Addr × Obj)) : Value → Nat × Nat → Prop
  | mk {x : Addr} {t : Tok} {sv : Value} {n p k : Nat} : (x, tupO [.int (p : Int) t, sv] n) ∈ news → StkIn news sv k → PairIn news (.ref x) (p, k)
theorem PairIn.mono {news news' : List (Addr × Obj)} (hs : ∀ p ∈ news, p ∈ news') {v : Value} {q : Nat × Nat} (h : PairIn news v q) : PairIn news' v q := by
  cases h with
  | mk hm ha => exact .mk (hs _ hm) (ha.mono hs)
theorem Ins.op_facts (i : Ins) : i.op ≠ 78 ∧ i.op ≠ 79 ∧ i.op ≠ 77 ∧ i.op ≠ 69 ∧ i.op ≠ 70 ∧ i.op ≠ 76 := by cases i <;> simp [Ins.op]
theorem Ins.put_cases (i : Ins) : (i.put : Int) = 0 ∨ (i.put : Int) = 1 ∨ (i.put : Int) = 2 := by cases i <;> simp [Ins.put]
theorem Ins.keep_iff (i : Ins) : ([61, 62].any (· == i.op)) = i.keep := by cases i <;> rfl
theorem Ins.taken_le (i : Ins) : i.taken ≤ 2 := by cases i <;> simp [Ins.taken]
theorem Ins.put_le (i : Ins) : i.put ≤ 2 := by cases i <;> simp [Ins.put]
theorem Ins.succs_a {i : Ins} {pc n : Nat} (h : i.arg = none) (l : i.last = true) : i.succs pc n = [] := by simp [Ins.succs, h, l]
theorem Ins.succs_b {i : Ins} {pc n : Nat} (h : i.arg = none) (l : i.last = false) : i.succs pc n = [(pc + 1, n - i.taken + i.put)] := by simp [Ins.succs, h, l]
theorem Ins.succs_c {i : Ins} {pc n a : Nat} {b : Bool} (h : i.arg = some a) (l : i.last = true) (k : ([61, 62].any (· == i.op)) = b) : i.succs pc n = [(a, if b then n else n - i.taken + i.put)] := by
  rw [i.keep_iff] at k
  simp [Ins.succs, h, l, k]
theorem Ins.succs_d {i : Ins} {pc n a : Nat} {b : Bool} (h : i.arg = some a) (l : i.last = false) (k : ([61, 62].any (· == i.op)) = b) : i.succs pc n = [(pc + 1, n - i.taken + i.put), (a, if b then n else n - i.taken + i.put)] := by
  rw [i.keep_iff] at k
  simp [Ins.succs, h, l, k]
theorem Ones.cast {vs : List Value} {n k : Nat} (h : Ones vs n) (e : n = k) : Ones vs k := e ▸ h
theorem PairIn.cast {news : List (Addr × Obj)} {x : Addr} {p : Int} {q k n : Nat} {t : Tok} {sv : Value} (h : (x, tupO [.int p t, sv] n) ∈ news) (e : p = (q : Int)) (s : StkIn news sv k) : PairIn news (.ref x) (q, k) := by
  subst e
  exact .mk h s
theorem Ins.pop_arg {i : Ins} {a : Nat} (h : i.arg = some a) : i.op ≠ 6 := by cases i <;> first | (simp [Ins.op]; done) | cases h
/-- the ledger grew: all that stood stands -/
structure Grow (news news' : List (Addr × Obj)) : Prop where
  mem : ∀ p ∈ news, p ∈ news'
namespace Grow
variable {n₁ n₂ n₃ tl : List (Addr × Obj)} {a : Addr} {o : Obj}
theorem refl (n : List (Addr × Obj)) : Grow n n := ⟨fun _ h => h⟩
theorem trans (g : Grow n₁ n₂) (k : Grow n₂ n₃) : Grow n₁ n₃ := ⟨fun p h => k.mem p (g.mem p h)⟩
theorem tail (g : Grow n₁ n₂) : Grow n₁ ((a, o) :: n₂) := ⟨fun p h => .tail _ (g.mem p h)⟩
theorem cons (_ : ∀ q ∈ n₂, q.1 < a) (g : Grow n₁ n₂) : Grow n₁ ((a, o) :: n₂) := g.tail
theorem app (_ : ∀ p ∈ tl, ∀ q ∈ n₂, q.1 < p.1) (g : Grow n₁ n₂) : Grow n₁ (tl ++ n₂) := ⟨fun p h => List.mem_append_right _ (g.mem p h)⟩
end Grow
/-- the entries of a unit's dict -/
def unitEs (w : World) (k : Nat → Tok) (P C cs us hs ls cp pp : Addr) : List DictEntry :=
  [⟨PyData.keyHash w.params (Str.ofString "name"), .str (Str.ofString "name") (k 0), .str (Str.ofString "program") (k 20)⟩,
   ⟨PyData.keyHash w.params (Str.ofString "params"), .str (Str.ofString "params") (k 1), .ref P⟩,
   ⟨PyData.keyHash w.params (Str.ofString "code"), .str (Str.ofString "code") (k 2), .ref C⟩,
   ⟨PyData.keyHash w.params (Str.ofString "consts"), .str (Str.ofString "consts") (k 3), .ref cs⟩,
   ⟨PyData.keyHash w.params (Str.ofString "units"), .str (Str.ofString "units") (k 4), .ref us⟩,
   ⟨PyData.keyHash w.params (Str.ofString "handlers"), .str (Str.ofString "handlers") (k 5), .ref hs⟩,
   ⟨PyData.keyHash w.params (Str.ofString "lines"), .str (Str.ofString "lines") (k 6), .ref ls⟩,
   ⟨PyData.keyHash w.params (Str.ofString "local_count"), .str (Str.ofString "local_count") (k 7), .int 0 (k 21)⟩,
   ⟨PyData.keyHash w.params (Str.ofString "cell_count"), .str (Str.ofString "cell_count") (k 8), .int 0 (k 22)⟩,
   ⟨PyData.keyHash w.params (Str.ofString "captures"), .str (Str.ofString "captures") (k 9), .ref cp⟩,
   ⟨PyData.keyHash w.params (Str.ofString "is_strict"), .str (Str.ofString "is_strict") (k 10), .bool false⟩,
   ⟨PyData.keyHash w.params (Str.ofString "uses_arguments"), .str (Str.ofString "uses_arguments") (k 11), .bool false⟩,
   ⟨PyData.keyHash w.params (Str.ofString "self_slot"), .str (Str.ofString "self_slot") (k 12), .none⟩,
   ⟨PyData.keyHash w.params (Str.ofString "arguments_place"), .str (Str.ofString "arguments_place") (k 13), .none⟩,
   ⟨PyData.keyHash w.params (Str.ofString "param_places"), .str (Str.ofString "param_places") (k 14), .ref pp⟩]
structure UnitIn (w : World) (news : List (Addr × Obj)) (u d : Addr) (k : Nat → Tok) (P C cs us hs ls cp pp : Addr) : Prop where
  inst : (u, instObj 138 d) ∈ news
  dict : (d, dictOf (unitEs w k P C cs us hs ls cp pp) 15) ∈ news
  params : (P, listOf #[] 0) ∈ news
  units : (us, listOf #[] 0) ∈ news
  handlers : (hs, listOf #[] 0) ∈ news
  lines : (ls, listOf #[] 0) ∈ news
  places : (pp, listOf #[] 0) ∈ news
theorem UnitIn.mono {w : World} {news news' : List (Addr × Obj)} (hs' : ∀ p ∈ news, p ∈ news') {u d : Addr} {k : Nat → Tok} {P C cs us hs ls cp pp : Addr} (h : UnitIn w news u d k P C cs us hs ls cp pp) : UnitIn w news' u d k P C cs us hs ls cp pp :=
  ⟨hs' _ h.1, hs' _ h.2, hs' _ h.3, hs' _ h.4, hs' _ h.5, hs' _ h.6, hs' _ h.7⟩
end
section
set_option maxRecDepth 100000
inductive Reach (code : List Ins) : Nat → Nat → Prop
  | zero : Reach code 0 0
  | step {p h : Nat} {i : Ins} {q : Nat × Nat} : Reach code p h → code[p]? = some i → q ∈ i.succs p h → Reach code q.1 q.2
def Under (code : List Ins) : Prop := ∃ p h i, Reach code p h ∧ code[p]? = some i ∧ h < i.taken
def Clash (code : List Ins) : Prop := ∃ p h h', Reach code p h ∧ Reach code p h' ∧ h ≠ h'
def Bad (code : List Ins) : Prop := Under code ∨ Clash code
structure GoodCode (code : List Ins) : Prop where
  pos : 0 < code.length
  size : code.length ≤ 100
  jump : ∀ p i t, code[p]? = some i → i.arg = some t → p < t ∧ t < code.length
  next : ∀ p i, code[p]? = some i → i.last = false → p + 1 < code.length
theorem GoodCode.succ {code : List Ins} (G : GoodCode code) {p h : Nat} {i : Ins} {q : Nat × Nat} (hi : code[p]? = some i) (hq : q ∈ i.succs p h) : p < q.1 ∧ q.1 < code.length ∧ q.2 ≤ h + 2 := by
  have hp := i.put_le
  unfold Ins.succs at hq
  rcases List.mem_append.mp hq with hq | hq
  · cases hl : i.last with
    | true => rw [hl] at hq; simp at hq
    | false =>
      rw [hl] at hq
      simp at hq
      subst hq
      have := G.next p i hi hl
      exact ⟨by simp, by simpa using this, by simp; omega⟩
  · cases ha : i.arg with
    | none => rw [ha] at hq; simp at hq
    | some t =>
      rw [ha] at hq
      simp at hq
      subst hq
      have := G.jump p i t hi ha
      refine ⟨this.1, this.2, ?_⟩
      simp only
      split <;> omega
theorem GoodCode.reach {code : List Ins} (G : GoodCode code) {p h : Nat} (r : Reach code p h) : p < code.length ∧ h ≤ 2 * p := by
  induction r with
  | zero => exact ⟨G.pos, by omega⟩
  | step _ hi hq ih =>
    have := G.succ hi hq
    exact ⟨this.2.1, by omega⟩
theorem GoodCode.at {code : List Ins} (G : GoodCode code) {p h : Nat} (r : Reach code p h) : ∃ i, code[p]? = some i := ⟨_, List.getElem?_eq_getElem (G.reach r).1⟩
structure Final (code : List Ins) (fs : List (Nat × Nat)) : Prop where
  nodup : (fs.map (·.1)).Nodup
  zero : (0, 0) ∈ fs
  reach : ∀ q ∈ fs, Reach code q.1 q.2
  shut : ∀ q ∈ fs, ∀ i, code[q.1]? = some i → i.taken ≤ q.2 ∧ ∀ r ∈ i.succs q.1 q.2, r ∈ fs
theorem nodup_one {fs : List (Nat × Nat)} (hn : (fs.map (·.1)).Nodup) {p h h' : Nat} (a : (p, h) ∈ fs) (b : (p, h') ∈ fs) : h = h' := by
  induction fs with
  | nil => cases a
  | cons x xs ih =>
    simp only [List.map_cons, List.nodup_cons] at hn
    rcases List.mem_cons.mp a with a | a <;> rcases List.mem_cons.mp b with b | b
    · rw [← a] at b; exact (congrArg Prod.snd b).symm
    · exact absurd (List.mem_map.mpr ⟨_, b, by rw [← a]⟩) hn.1
    · exact absurd (List.mem_map.mpr ⟨_, a, by rw [← b]⟩) hn.1
    · exact ih hn.2 a b
theorem Final.all {code : List Ins} {fs : List (Nat × Nat)} (f : Final code fs) {p h : Nat} (r : Reach code p h) : (p, h) ∈ fs := by
  induction r with
  | zero => exact f.zero
  | step _ hi hq ih => exact (f.shut _ ih _ hi).2 _ hq
theorem Final.good {code : List Ins} {fs : List (Nat × Nat)} (f : Final code fs) : ¬ Bad code := by
  rintro (⟨p, h, i, r, hi, hl⟩ | ⟨p, h, h', r, r', hne⟩)
  · have := (f.shut _ (f.all r) i hi).1
    simp at this; omega
  · exact hne (nodup_one f.nodup (f.all r) (f.all r'))
theorem nodup_le : ∀ (n : Nat) (xs : List Nat), xs.Nodup → (∀ x ∈ xs, x < n) → xs.length ≤ n := by
  intro n
  induction n with
  | zero =>
    intro xs _ hb
    cases xs with
    | nil => simp
    | cons x xs => exact absurd (hb x (List.mem_cons_self)) (by omega)
  | succ n ih =>
    intro xs hn hb
    by_cases e : n ∈ xs
    · have h1 := ih (xs.erase n) (hn.erase n) (fun x hx => by
        have h2 := (List.Nodup.mem_erase_iff hn).mp hx
        have := hb x h2.2
        omega)
      rw [List.length_erase_of_mem e] at h1
      omega
    · have := ih xs hn (fun x hx => by
        have h2 := hb x hx
        have : x ≠ n := fun q => e (q ▸ hx)
        omega)
      omega
/-- between two turns: who waits is found; all others are shut; but for the one at hand -/
structure SPure (code : List Ins) (fs : List (Nat × Nat)) (W : List Nat) (one : Nat → Prop) (k : Nat) : Prop where
  nodup : (fs.map (·.1)).Nodup
  zero : (0, 0) ∈ fs
  reach : ∀ q ∈ fs, Reach code q.1 q.2
  wnodup : W.Nodup
  wsub : ∀ p ∈ W, p ∈ fs.map (·.1)
  shut : ∀ q ∈ fs, q.1 ∉ W → ¬ one q.1 → ∀ i, code[q.1]? = some i → i.taken ≤ q.2 ∧ ∀ r ∈ i.succs q.1 q.2, r ∈ fs
  meas : 2 * (code.length - fs.length) + W.length ≤ k
namespace SPure
variable {code : List Ins} {fs : List (Nat × Nat)} {W : List Nat} {one : Nat → Prop} {k : Nat}
theorem fsz (G : GoodCode code) (s : SPure code fs W one k) : fs.length ≤ code.length := by
  have := nodup_le code.length _ s.nodup (fun x hx => by
    obtain ⟨q, hq, rfl⟩ := List.mem_map.mp hx
    exact (G.reach (s.reach q hq)).1)
  simpa using this
theorem wsz (G : GoodCode code) (s : SPure code fs W one k) : W.length ≤ code.length :=
  nodup_le code.length _ s.wnodup (fun x hx => by
    obtain ⟨q, hq, rfl⟩ := List.mem_map.mp (s.wsub x hx)
    exact (G.reach (s.reach q hq)).1)
theorem start (G : GoodCode code) : SPure code [(0, 0)] [0] (fun _ => False) (2 * code.length) :=
  ⟨by simp, by simp, by simp; exact .zero, by simp, by simp, by simp, by simp only [List.length_cons, List.length_nil]; have := G.pos; omega⟩
theorem fin (s : SPure code fs [] (fun _ => False) k) : Final code fs :=
  ⟨s.nodup, s.zero, s.reach, fun q hq i hi => s.shut q hq (by simp) (by simp) i hi⟩
theorem pop {p : Nat} (s : SPure code fs (W ++ [p]) (fun _ => False) k) : (∃ h, (p, h) ∈ fs) ∧ 0 < k ∧ SPure code fs W (· = p) (k - 1) := by
  have hm := s.meas
  simp at hm
  refine ⟨?_, by omega, s.nodup, s.zero, s.reach, ?_, fun x hx => s.wsub x (by simp [hx]), ?_, by omega⟩
  · obtain ⟨q, hq, e⟩ := List.mem_map.mp (s.wsub p (by simp))
    exact ⟨q.2, by rw [← e]; exact hq⟩
  · exact (List.nodup_append.mp s.wnodup).1
  · intro q hq h1 h2 i hi
    exact s.shut q hq (by simp [h1, h2]) (by simp) i hi
theorem push (G : GoodCode code) {q : Nat × Nat} (s : SPure code fs W one k) (hr : Reach code q.1 q.2) (hn : q.1 ∉ fs.map (·.1)) : SPure code (fs ++ [q]) (W ++ [q.1]) one k := by
  have hlen : fs.length + 1 ≤ code.length := by
    have hnd : ((fs ++ [q]).map (·.1)).Nodup := by
      rw [List.map_append, List.nodup_append]
      refine ⟨s.nodup, by simp, ?_⟩
      intro a ha b hb
      simp at hb
      subst hb
      exact fun e => hn (e ▸ ha)
    have := nodup_le code.length _ hnd (fun x hx => by
      obtain ⟨r, hr', rfl⟩ := List.mem_map.mp hx
      rcases List.mem_append.mp hr' with h | h
      · exact (G.reach (s.reach r h)).1
      · simp at h; subst h; exact (G.reach hr).1)
    simpa using this
  have hm := s.meas
  refine ⟨?_, List.mem_append_left _ s.zero, ?_, ?_, ?_, ?_, by simp; omega⟩
  · rw [List.map_append, List.nodup_append]
    refine ⟨s.nodup, by simp, ?_⟩
    intro a ha b hb
    simp at hb
    subst hb
    exact fun e => hn (e ▸ ha)
  · intro r hr'
    rcases List.mem_append.mp hr' with h | h
    · exact s.reach r h
    · simp at h; subst h; exact hr
  · rw [List.nodup_append]
    refine ⟨s.wnodup, by simp, ?_⟩
    intro a ha b hb
    simp at hb
    subst hb
    exact fun e => hn (e ▸ s.wsub a ha)
  · intro x hx
    rcases List.mem_append.mp hx with h | h
    · rw [List.map_append]; exact List.mem_append_left _ (s.wsub x h)
    · simp at h; subst h; simp
  · intro r hr' h1 h2 i hi
    rcases List.mem_append.mp hr' with h | h
    · have := s.shut r h (fun e => h1 (List.mem_append_left _ e)) h2 i hi
      exact ⟨this.1, fun x hx => List.mem_append_left _ (this.2 x hx)⟩
    · simp at h; subst h; exact absurd (by simp) h1
theorem close {p h : Nat} {i : Ins} (s : SPure code fs W (· = p) k) (hp : (p, h) ∈ fs) (hi : code[p]? = some i) (ht : i.taken ≤ h) (ha : ∀ r ∈ i.succs p h, r ∈ fs) : SPure code fs W (fun _ => False) k := by
  refine ⟨s.nodup, s.zero, s.reach, s.wnodup, s.wsub, ?_, s.meas⟩
  intro q hq h1 _ j hj
  by_cases e : q.1 = p
  · obtain ⟨q1, q2⟩ := q
    simp at e
    subst e
    obtain rfl := nodup_one s.nodup hp hq
    rw [hi] at hj
    cases hj
    exact ⟨ht, ha⟩
  · exact s.shut q hq h1 e j hj
theorem bad {q : Nat × Nat} {h : Nat} (s : SPure code fs W one k) (hr : Reach code q.1 q.2) (hf : (q.1, h) ∈ fs) (hne : h ≠ q.2) : Bad code := .inr ⟨q.1, h, q.2, s.reach _ hf, hr, hne⟩
end SPure
end
section
set_option maxRecDepth 100000
/-- a row's instructions, with where its jump goes: far, or its own last place -/
def rowOf (r : Nat) (far last : Nat) : List Ins :=
  match r with
  | 0 => [.jmp far]
  | 1 => [.this, .dup, .add, .pop]
  | 2 => [.this, .this, .swap, .pop, .pop]
  | 3 => [.this, .not, .jf far]
  | 4 => [.this, .jfk last, .this, .pop]
  | _ => [.this, .jtk last, .this, .not, .pop]
def rowLen (r : Nat) : Nat := (rowOf r 0 0).length
theorem rowOf_len (r a b : Nat) : (rowOf r a b).length = rowLen r := by
  unfold rowLen rowOf
  split <;> rfl
theorem rowLen_le (r : Nat) : rowLen r ≤ 5 := by
  unfold rowLen rowOf
  split <;> simp
theorem rowLen_pos (r : Nat) : 0 < rowLen r := by
  unfold rowLen rowOf
  split <;> simp
/-- where the pieces start -/
def start (cs : List Nat) (i : Nat) : Nat := ((cs.take i).map fun c => rowLen (c % 6)).sum
/-- the piece at i -/
def piece (cs : List Nat) (i : Nat) : List Ins :=
  rowOf (cs.getD i 0 % 6) (start cs (i + 1 + cs.getD i 0 / 6 % (cs.length - i))) (start cs (i + 1) - 1)
def pieces (cs : List Nat) : List Ins := ((List.range cs.length).map (piece cs)).flatten ++ [.this, .ret]
end
section
set_option maxRecDepth 100000
def room (code : List Ins) : Nat := code.length * (2 * code.length + 1)
theorem pairs_le {code : List Ins} {fs : List (Nat × Nat)} (hn : fs.Nodup) (hb : ∀ q ∈ fs, q.1 < code.length ∧ q.2 ≤ 2 * code.length) : fs.length ≤ room code := by
  have h1 : (fs.map fun q => q.1 * (2 * code.length + 1) + q.2).Nodup := by
    rw [List.nodup_iff_pairwise_ne] at *
    rw [List.pairwise_map]
    refine List.Pairwise.imp_of_mem ?_ hn
    rintro ⟨a1, a2⟩ ⟨b1, b2⟩ ha hb' hne e
    simp only at e
    have x := (hb _ ha).2
    have y := (hb _ hb').2
    simp only at x y
    have e1 : a1 = b1 := by
      have u := congrArg (· / (2 * code.length + 1)) e
      rw [Nat.add_comm, Nat.add_mul_div_right _ _ (by omega), Nat.div_eq_of_lt (by omega), Nat.add_comm (b1 * _), Nat.add_mul_div_right _ _ (by omega), Nat.div_eq_of_lt (by omega)] at u
      omega
    subst e1
    exact hne (by rw [Nat.add_left_cancel e])
  have h2 := nodup_le (room code) _ h1 (fun x hx => by
    obtain ⟨q, hq, rfl⟩ := List.mem_map.mp hx
    obtain ⟨u, v⟩ := hb q hq
    unfold room
    have : (q.1 + 1) * (2 * code.length + 1) ≤ code.length * (2 * code.length + 1) := Nat.mul_le_mul_right _ u
    rw [Nat.add_mul] at this
    omega)
  simpa using h2
structure HPure (code : List Ins) (fs W : List (Nat × Nat)) (k : Nat) : Prop where
  nodup : fs.Nodup
  reach : ∀ q ∈ fs, Reach code q.1 q.2
  wreach : ∀ q ∈ W, Reach code q.1 q.2
  zero : (0, 0) ∈ fs ∨ (0, 0) ∈ W
  shut : ∀ q ∈ fs, ∀ i, code[q.1]? = some i → i.taken ≤ q.2 ∧ ∀ r ∈ i.succs q.1 q.2, r ∈ fs ∨ r ∈ W
  meas : 3 * (room code - fs.length) + W.length ≤ k
  small : k ≤ 3 * room code + 1
structure HFinal (code : List Ins) (fs : List (Nat × Nat)) : Prop where
  nodup : fs.Nodup
  reach : ∀ q ∈ fs, Reach code q.1 q.2
  all : ∀ p h, Reach code p h → (p, h) ∈ fs
  enough : ¬ Under code
namespace HPure
variable {code : List Ins} {fs W : List (Nat × Nat)} {k : Nat}
theorem bound (G : GoodCode code) (hn : fs.Nodup) (hr : ∀ q ∈ fs, Reach code q.1 q.2) : fs.length ≤ room code :=
  pairs_le hn fun q hq => by
    have := G.reach (hr q hq)
    exact ⟨this.1, by omega⟩
theorem fsz (G : GoodCode code) (s : HPure code fs W k) : fs.length ≤ room code := bound G s.nodup s.reach
theorem wsz (s : HPure code fs W k) : W.length ≤ 3 * room code + 1 := by
  have := s.meas; have := s.small; omega
theorem start : HPure code [] [(0, 0)] (3 * room code + 1) :=
  ⟨by simp, by simp, by simp; exact .zero, by simp, by simp, by simp, by omega⟩
theorem fin (s : HPure code fs [] k) : HFinal code fs := by
  have hall : ∀ p h, Reach code p h → (p, h) ∈ fs := by
    intro p h r
    induction r with
    | zero => simpa using s.zero
    | step _ hi hq ih => simpa using (s.shut _ ih _ hi).2 _ hq
  refine ⟨s.nodup, s.reach, hall, ?_⟩
  rintro ⟨p, h, i, r, hi, hl⟩
  have := (s.shut _ (hall _ _ r) i hi).1
  simp at this; omega
theorem skip {q : Nat × Nat} (s : HPure code fs (W ++ [q]) k) (hq : q ∈ fs) : 0 < k ∧ HPure code fs W (k - 1) := by
  have hm := s.meas
  have hs := s.small
  simp at hm
  refine ⟨by omega, s.nodup, s.reach, fun x hx => s.wreach x (by simp [hx]), ?_, ?_, by omega, by omega⟩
  · rcases s.zero with h | h
    · exact .inl h
    · rcases List.mem_append.mp h with h | h
      · exact .inr h
      · simp at h; exact .inl (h ▸ hq)
  · intro x hx i hi
    refine ⟨(s.shut x hx i hi).1, fun r hr => ?_⟩
    rcases (s.shut x hx i hi).2 r hr with h | h
    · exact .inl h
    · rcases List.mem_append.mp h with h | h
      · exact .inr h
      · simp at h; exact .inl (h ▸ hq)
theorem visit (G : GoodCode code) {q : Nat × Nat} {i : Ins} {new : List (Nat × Nat)} (s : HPure code fs (W ++ [q]) k) (hq : q ∉ fs) (hi : code[q.1]? = some i) (ht : i.taken ≤ q.2) (hn : ∀ r, r ∈ new ↔ r ∈ i.succs q.1 q.2) (hl : new.length ≤ 2) : 0 < k ∧ HPure code (fs ++ [q]) (W ++ new) (k - 1) := by
  have hm := s.meas
  have hs := s.small
  simp at hm
  have hr := s.wreach q (by simp)
  have hnd : (fs ++ [q]).Nodup := by
    rw [List.nodup_append]
    refine ⟨s.nodup, by simp, ?_⟩
    intro a ha b hb
    simp at hb
    subst hb
    exact fun e => hq (e ▸ ha)
  have hre : ∀ x ∈ fs ++ [q], Reach code x.1 x.2 := by
    intro x hx
    rcases List.mem_append.mp hx with h | h
    · exact s.reach x h
    · simp at h; subst h; exact hr
  have hb := bound G hnd hre
  simp at hb
  refine ⟨by omega, hnd, hre, ?_, ?_, ?_, by simp; omega, by omega⟩
  · intro x hx
    rcases List.mem_append.mp hx with h | h
    · exact s.wreach x (by simp [h])
    · exact .step hr hi ((hn x).mp h)
  · rcases s.zero with h | h
    · exact .inl (by simp [h])
    · rcases List.mem_append.mp h with h | h
      · exact .inr (by simp [h])
      · exact .inl (List.mem_append_right _ h)
  · intro x hx j hj
    rcases List.mem_append.mp hx with h | h
    · refine ⟨(s.shut x h j hj).1, fun r hr' => ?_⟩
      rcases (s.shut x h j hj).2 r hr' with h | h
      · exact .inl (by simp [h])
      · rcases List.mem_append.mp h with h | h
        · exact .inr (by simp [h])
        · exact .inl (List.mem_append_right _ h)
    · simp at h; subst h
      rw [hi] at hj; cases hj
      exact ⟨ht, fun r hr' => .inr (List.mem_append_right _ ((hn r).mpr hr'))⟩
theorem under {q : Nat × Nat} {i : Ins} (s : HPure code fs (W ++ [q]) k) (hi : code[q.1]? = some i) (ht : q.2 < i.taken) : Under code := ⟨q.1, q.2, i, s.wreach q (by simp), hi, ht⟩
end HPure
end
section
open PySem PySem.W PyProof.Rows PySem.Spec PySem.Calls PySem.Builtin
set_option maxRecDepth 100000
theorem pick_from (items : Array Value) (a k : Nat) (hk : a + k ≤ items.size) (f : Nat → Nat) (hf : ∀ j, f j = a + j) :
    (List.range k).filterMap (fun j => items[f j]?) = (items.toList.drop a).take k := by
  have e : (fun j => items[f j]?) = (items[·]?) ∘ (a + ·) := by funext j; simp [hf]
  rw [e, ← List.filterMap_map, pick_run]
theorem adj_from (a n : Nat) (ha : a ≤ n) : Slice.sliceAdjust (some (a : Int)) none 1 (n : Int) = ((a : Int), (n : Int)) := by
  unfold Slice.sliceAdjust
  simp only [show ¬ ((1 : Int) < 0) by decide, if_false, show ¬ ((a : Int) < 0) by omega]
  simp only [Prod.mk.injEq, and_true]; omega
theorem adj_upto (b n : Nat) (hb : b ≤ n) : Slice.sliceAdjust none (some (b : Int)) 1 (n : Int) = (0, (b : Int)) := by
  unfold Slice.sliceAdjust
  simp only [show ¬ ((1 : Int) < 0) by decide, if_false, show ¬ ((b : Int) < 0) by omega]
  simp only [Prod.mk.injEq, true_and]; omega
theorem places_one (a b : Nat) (h : a ≤ b) : Slice.slicePlaces (a : Int) (b : Int) 1 = b - a := by
  unfold Slice.slicePlaces
  simp only [show ((1 : Int) > 0) by decide, if_true]
  split <;> omega
set_option maxHeartbeats 1000000 in
theorem tup_getitem_from (l sl : Addr) (items : Array Value) (n a : Nat) (ta : Tok) (ha : a ≤ items.size) (hsz : items.size ≤ sizeLine) :
    Meets (Builtin.«tuple.__getitem__» ⟨[.ref l, .ref sl], []⟩)
      (fun _ R s => s.heap.get? l = some { cls := .type "tuple", dict := none, data := .seq items n, slots := #[] } ∧ s.heap.get? sl = some { cls := .type "slice", dict := none, data := .fields #[.int a ta, .none, .none], slots := #[] } ∧
        ((a = 0 → R (.ok (.ret (.ref l))) s) ∧ (a ≠ 0 → R (.ok (.ret (.ref s.heap.objs.size))) { s with heap := s.heap.push { cls := .type "tuple", data := .seq (items.toList.drop a).toArray } }))) :=
  .of_wp fun prog w A R s h => by
    obtain ⟨hp, g, d, tk, os⟩ := s; obtain ⟨hl, hs, h1, h2⟩ := h
    have f1 := AutoSeq1.idx_int
    wp_walk using wpAny_loadPart' hl, wpAny_loadPart' hs
    simp only [Option.getD_none, adj_from a items.size ha, places_one a items.size ha]
    refine wpAny_ite_split (fun hc => ?_) (fun hc => ?_)
    · have h0 : a = 0 := by simp at hc; omega
      wp_walk using wpAny_loadPart' hl, wpAny_loadPart' hs
      exact ⟨_, rfl, h1 h0⟩
    · have h0 : a ≠ 0 := by
        intro h0; subst h0; apply hc; simp
      have hq : (List.filterMap (fun k : Nat => items[((a : Int) + (k : Int) * 1).toNat]?) (List.range (items.size - a))) = items.toList.drop a := by
        rw [pick_from items a (items.size - a) (by omega) (fun k => ((a : Int) + (k : Int) * 1).toNat) (fun j => by omega)]
        rw [List.take_of_length_le]; simp
      rw [hq]
      have hz : ((items.toList.drop a).toArray).size ≤ sizeLine := by simp; omega
      unfold Tuple.tupleExact
      refine wpAny_bind (wpAny_newObj_type ?_ hz)
      wp_walk
      exact ⟨_, rfl, h2 h0⟩
set_option maxHeartbeats 1000000 in
theorem tup_getitem_upto (l sl : Addr) (items : Array Value) (n b : Nat) (tb : Tok) (hb : b ≤ items.size) (hsz : items.size ≤ sizeLine) :
    Meets (Builtin.«tuple.__getitem__» ⟨[.ref l, .ref sl], []⟩)
      (fun _ R s => s.heap.get? l = some { cls := .type "tuple", dict := none, data := .seq items n, slots := #[] } ∧ s.heap.get? sl = some { cls := .type "slice", dict := none, data := .fields #[.none, .int b tb, .none], slots := #[] } ∧
        ((b = items.size → R (.ok (.ret (.ref l))) s) ∧ (b ≠ items.size → R (.ok (.ret (.ref s.heap.objs.size))) { s with heap := s.heap.push { cls := .type "tuple", data := .seq (items.toList.take b).toArray } }))) :=
  .of_wp fun prog w A R s h => by
    obtain ⟨hp, g, d, tk, os⟩ := s; obtain ⟨hl, hs, h1, h2⟩ := h
    have f1 := AutoSeq1.idx_int
    wp_walk using wpAny_loadPart' hl, wpAny_loadPart' hs
    simp only [Option.getD_none, adj_upto b items.size hb]
    have hp0 := places_one 0 b (Nat.zero_le b)
    rw [Int.natCast_zero] at hp0
    simp only [hp0]
    refine wpAny_ite_split (fun hc => ?_) (fun hc => ?_)
    · have h0 : b = items.size := by simp at hc; omega
      wp_walk using wpAny_loadPart' hl, wpAny_loadPart' hs
      exact ⟨_, rfl, h1 h0⟩
    · have h0 : b ≠ items.size := by
        intro h0; subst h0; apply hc; simp
      have hq : (List.filterMap (fun k : Nat => items[((0 : Int) + (k : Int) * 1).toNat]?) (List.range (b - 0))) = items.toList.take b := by
        rw [pick_from items 0 (b - 0) (by omega) (fun k => ((0 : Int) + (k : Int) * 1).toNat) (fun j => by omega)]
        simp
      rw [hq]
      have hz : ((items.toList.take b).toArray).size ≤ sizeLine := by simp; omega
      unfold Tuple.tupleExact
      refine wpAny_bind (wpAny_newObj_type ?_ hz)
      wp_walk
      exact ⟨_, rfl, h2 h0⟩
section
variable {prog : Program} {w : World} {A : Around} {E : Value → Shared → Prop} {s : Shared} {l sl : Addr} {items : Array Value} {n : Nat} {value slice : PySem.Expr} {Q : Value → Shared → Prop}
theorem tup_from {a : Nat} {ta : Tok} (hl : s.heap.get? l = some { cls := .type "tuple", dict := none, data := .seq items n, slots := #[] }) (hs : s.heap.get? sl = some { cls := .type "slice", dict := none, data := .fields #[.int a ta, .none, .none], slots := #[] })
    (ha : a ≤ items.size) (hsz : items.size ≤ sizeLine) (h1 : a = 0 → Q (.ref l) s) (h2 : a ≠ 0 → Q (.ref s.heap.objs.size) { s with heap := s.heap.push { cls := .type "tuple", data := .seq (items.toList.drop a).toArray } })
    (hsub : subscripted slice false (.ref l) (.ref sl) = operate [.ref sl, .ref l] (getItem (.ref l) (.ref sl)) := by with_unfolding_all rfl) :
    wpAny (model prog w) A (subscriptTail value slice (.ref l) (.ref sl)) Q E s :=
  tail_any (T := "tuple") ⟨_, hl, rfl⟩ slot_tuple_getitem.lookup (getItem_meets ⟨_, hl, rfl⟩ (by decide) F.slot_tuple_getitem F.entry_tuple_getitem (F.args_tuple_getitem_2 _ _) (tup_getitem_from l sl items n a ta ha hsz) ⟨hl, hs, h1, h2⟩) hsub
theorem tup_upto {b : Nat} {tb : Tok} (hl : s.heap.get? l = some { cls := .type "tuple", dict := none, data := .seq items n, slots := #[] }) (hs : s.heap.get? sl = some { cls := .type "slice", dict := none, data := .fields #[.none, .int b tb, .none], slots := #[] })
    (hb : b ≤ items.size) (hsz : items.size ≤ sizeLine) (h1 : b = items.size → Q (.ref l) s) (h2 : b ≠ items.size → Q (.ref s.heap.objs.size) { s with heap := s.heap.push { cls := .type "tuple", data := .seq (items.toList.take b).toArray } })
    (hsub : subscripted slice false (.ref l) (.ref sl) = operate [.ref sl, .ref l] (getItem (.ref l) (.ref sl)) := by with_unfolding_all rfl) :
    wpAny (model prog w) A (subscriptTail value slice (.ref l) (.ref sl)) Q E s :=
  tail_any (T := "tuple") ⟨_, hl, rfl⟩ slot_tuple_getitem.lookup (getItem_meets ⟨_, hl, rfl⟩ (by decide) F.slot_tuple_getitem F.entry_tuple_getitem (F.args_tuple_getitem_2 _ _) (tup_getitem_upto l sl items n b tb hb hsz) ⟨hl, hs, h1, h2⟩) hsub
end
end
section
open PySem PySem.W PyProof.Rows PySem.Spec PySem.Calls PySem.Builtin
set_option maxRecDepth 100000
theorem noFill_tuple_mul : fillsNumberSlot (.type "tuple") "mul" = pure false :=
  PySem.fillsNumberSlot_seq (id := "tuple.__mul__") (r := some (.builtin "tuple.__rmul__")) F.slot_tuple_mul.lookup (by decide +kernel) F.slot_tuple_rmul.lookup (by decide +kernel)
theorem repeat_tuple : seqRepeat? (.type "tuple") = pure (some (.builtin "tuple.__mul__")) := by
  unfold seqRepeat?
  rw [PySem.seqSlot_of (T := "tuple") (name := "__mul__") (id := "tuple.__mul__") F.slot_tuple_mul.lookup (by decide +kernel), PySem.seqSlot_of (T := "tuple") (name := "__rmul__") (id := "tuple.__rmul__") F.slot_tuple_rmul.lookup (by decide +kernel)]
  rfl
theorem rmul_int_tuple (a : Int) (t : Tok) (l : Addr) (items : Array Value) (n : Nat) :
    Meets (Builtin.«int.__rmul__» ⟨[.int a t, .ref l], []⟩) (fun _ R s => s.heap.get? l = some { cls := .type "tuple", dict := none, data := .seq items n, slots := #[] } ∧ R (.ok (.ret Value.notImplemented)) s) :=
  .of_wp fun prog w A R s h => by obtain ⟨hp, g, d, tk, os⟩ := s; obtain ⟨hl, h⟩ := h; wp_walk; exact ⟨_, rfl, h⟩
set_option maxHeartbeats 1000000 in
theorem mul_tuple (l : Addr) (v : Value) (n : Nat) (x : Int) (u : Tok) (hx : x = 0 ∨ x = 1 ∨ x = 2) :
    Meets (Builtin.«tuple.__mul__» ⟨[.ref l, .int x u], []⟩) (fun _ R s => s.heap.get? l = some { cls := .type "tuple", dict := none, data := .seq #[v] n, slots := #[] } ∧
      (x = 1 → R (.ok (.ret (.ref l))) s) ∧ (x ≠ 1 → R (.ok (.ret (.ref s.heap.objs.size))) { s with heap := s.heap.push { cls := .type "tuple", data := .seq (List.replicate x.toNat v).toArray } })) :=
  .of_wp fun prog w A R s h => by
    obtain ⟨hp, g, d, tk, os⟩ := s; obtain ⟨hl, h1, h2⟩ := h
    have f1 := AutoSeq1.idx_int
    have hz2 : (#[v, v] : Array Value).size ≤ sizeLine := by rw [sizeLine_eq]; show 2 ≤ 16777216; decide
    have hz0 : (#[] : Array Value).size ≤ sizeLine := Nat.zero_le _
    rcases hx with rfl | rfl | rfl
    · wp_walk using wpAny_loadPart' hl
      exact ⟨_, rfl, h2 (by decide)⟩
    · wp_walk using wpAny_loadPart' hl
      exact ⟨_, rfl, h1 rfl⟩
    · wp_walk using wpAny_loadPart' hl
      have e : List.foldl (fun x1 x2 => x1 ++ x2) #[] (List.replicate (Int.toNat 2) #[v]) = (List.replicate (Int.toNat 2) v).toArray := by
        show List.foldl (fun x1 x2 => x1 ++ x2) #[] [#[v], #[v]] = [v, v].toArray
        simp
      rw [e]
      exact ⟨_, rfl, h2 (by decide)⟩
section
variable {prog : Program} {w : World} {A : Around} {E : Value → Shared → Prop} {s : Shared} {h₀ : Heap} {L l : Addr} {m : Str → Option Value} {news : List (Addr × Obj)} {k : Nat} {Q : Value → Shared → Prop}
theorem ones_rep (t : Tok) : ∀ n, Ones (List.replicate n (.int (-1) t)) n
  | 0 => .nil
  | n + 1 => .cons (ones_rep t n)
theorem tup_rep {t u : Tok} {x : Int} (Fm : Fr h₀ L s.heap m) (N : News h₀ L s.heap news) (hm : (l, tupO [.int (-1) t] k) ∈ news) (hx : x = 0 ∨ x = 1 ∨ x = 2)
    (h : ∀ h' n' v, Fr h₀ L h' m → News h₀ L h' n' → Grow news n' → StkIn n' v x.toNat → Q v { s with heap := h' }) :
    wpAny (model prog w) A (binaryOp .Mult (.ref l) (.int x u)) Q E s := by
  have hl := (N _ hm).1
  refine wpAny_binaryOp_repeat_ref (T := "tuple") (U := "int") (by decide) ⟨_, hl, rfl⟩ (fun s' => typeIs_int s' x u) noFill_tuple_mul F.fills_int_mul F.slot_int_rmul repeat_tuple F.slot_int_index.lookup
    (call_meets F.slot_int_rmul (typeIs_int s x u) F.entry_int_rmul (F.args_int_rmul_2 _ _) (rmul_int_tuple x u l _ k)
      ⟨hl, rfl, ⟨_, hl, rfl⟩, call_meets F.slot_tuple_mul ⟨_, hl, rfl⟩ F.entry_tuple_mul (F.args_tuple_mul_2 _ _) (mul_tuple l _ k x u hx) ⟨hl, fun e => ?_, fun e => ?_⟩⟩)
  · subst e
    exact h s.heap _ _ Fm N (.refl _) (.mk hm (.cons .nil))
  · exact h _ ((s.heap.objs.size, tupO (List.replicate x.toNat (.int (-1) t)) 0) :: news) _ (Fm.push _) (News.push Fm N _) (.cons (fun q hq => Heap.lt_size (N q hq).1) (.refl _)) (.mk (.head _) (ones_rep t _))
end
end
section
set_option maxRecDepth 100000
section
variable {prog : Program} {w : World} {A : Around} {E : Value → Shared → Prop} {s : Shared} {value slice : PySem.Expr} {Q : Value → Shared → Prop} {h₀ : Heap} {L l b : Addr} {m : Str → Option Value} {news : List (Addr × Obj)} {vs ws : List Value} {k k2 n c : Nat}
theorem below_all {h : Heap} (N : News h₀ L h news) : ∀ q ∈ news, q.1 < h.objs.size := fun q hq => Heap.lt_size (N q hq).1
theorem stk_add (Fm : Fr h₀ L s.heap m) (N : News h₀ L s.heap news) (h1 : (l, tupO vs k) ∈ news) (o1 : Ones vs n) (h2 : (b, tupO ws k2) ∈ news) (o2 : Ones ws c) (hsz : n + c ≤ 16777216)
    (h : ∀ h' n' x zs kz, Fr h₀ L h' m → News h₀ L h' n' → Grow news n' → (x, tupO zs kz) ∈ n' → Ones zs (n + c) → Q (.ref x) { s with heap := h' }) :
    wpAny (model prog w) A (binaryOp .Add (.ref l) (.ref b)) Q E s := by
  have hl := (N _ h1).1
  have hb := (N _ h2).1
  by_cases e1 : vs = []
  · subst e1
    have : n = 0 := o1.length.symm
    subst this
    refine concat_meets ⟨_, hl, rfl⟩ ⟨_, hb, rfl⟩ noFill_tuple_add seq_tuple_add F.slot_tuple_add F.entry_tuple_add (F.args_tuple_add_2 _ _) (AutoSeq1.tuple___add___tuple_tuple_0 l ([] : List Value).toArray k b ws.toArray k2 (by simp)) ⟨hl, hb, ?_⟩
    exact h s.heap _ b ws k2 Fm N (.refl _) h2 (by rw [Nat.zero_add]; exact o2)
  · by_cases e2 : ws = []
    · subst e2
      have : c = 0 := o2.length.symm
      subst this
      refine concat_meets ⟨_, hl, rfl⟩ ⟨_, hb, rfl⟩ noFill_tuple_add seq_tuple_add F.slot_tuple_add F.entry_tuple_add (F.args_tuple_add_2 _ _) (AutoSeq1.tuple___add___tuple_tuple_1 l vs.toArray k b ([] : List Value).toArray k2 (by simpa using e1) (by simp)) ⟨hl, hb, ?_⟩
      exact h s.heap _ l vs k Fm N (.refl _) h1 o1
    · refine concat_meets ⟨_, hl, rfl⟩ ⟨_, hb, rfl⟩ noFill_tuple_add seq_tuple_add F.slot_tuple_add F.entry_tuple_add (F.args_tuple_add_2 _ _) (AutoSeq1.tuple___add___tuple_tuple_2 l vs.toArray k b ws.toArray k2 (by simpa using e1) (by simpa using e2) ?_) ⟨hl, hb, ?_⟩
      · rw [sizeLine_eq]; simp only [List.size_toArray, o1.length, o2.length]; exact hsz
      · have e : vs.toArray ++ ws.toArray = (vs ++ ws).toArray := by simp
        rw [e]
        exact h _ ((s.heap.objs.size, tupO (vs ++ ws) 0) :: news) _ _ _ (Fm.push _) (News.push Fm N _) (.cons (below_all N) (.refl _)) (.head _) (o1.append o2)
theorem stk_from {x : Int} {tx : Tok} (Fm : Fr h₀ L s.heap m) (N : News h₀ L s.heap news) (h1 : (l, tupO vs k) ∈ news) (o1 : Ones vs n) (hx0 : 0 ≤ x) (hx : x ≤ (n : Int)) (hsz : n ≤ 16777216)
    (h : ∀ h' n' y zs kz, Fr h₀ L h' m → News h₀ L h' n' → Grow news n' → (y, tupO zs kz) ∈ n' → Ones zs (n - x.toNat) → Q (.ref y) { s with heap := h' })
    (hs : subscripted slice false (.ref l) (.ref s.heap.objs.size) = operate [.ref s.heap.objs.size, .ref l] (getItem (.ref l) (.ref s.heap.objs.size))) :
    wpAny (model prog w) A (subscriptTail value slice (.ref l) (.ref s.heap.objs.size)) Q E { s with heap := s.heap.push { cls := .type "slice", data := .fields #[.int x tx, .none, .none] } } := by
  have hl := (N _ h1).1
  have hsize : vs.toArray.size = n := by rw [List.size_toArray, o1.length]
  have ex : x = ((x.toNat : Nat) : Int) := by omega
  refine tup_from (s := { s with heap := s.heap.push { cls := .type "slice", data := .fields #[.int x tx, .none, .none] } }) (items := vs.toArray) (n := k) (a := x.toNat) (ta := tx) (Heap.get?_push_of_some _ hl) (by rw [← ex]; exact Heap.get?_push_size _ rfl) (by rw [hsize]; omega) (by rw [hsize, sizeLine_eq]; exact hsz) (fun e => ?_) (fun e => ?_) hs
  · refine h _ _ _ _ _ (Fm.push _) (fun p hp => ⟨Heap.get?_push_of_some _ (N p hp).1, (N p hp).2⟩) (.refl _) h1 ?_
    rw [e, Nat.sub_zero]; exact o1
  · have N' : News h₀ L (s.heap.push { cls := .type "slice", data := .fields #[.int x tx, .none, .none] }) news := fun p hp => ⟨Heap.get?_push_of_some _ (N p hp).1, (N p hp).2⟩
    refine h _ (((s.heap.push { cls := .type "slice", data := .fields #[.int x tx, .none, .none] }).objs.size, tupO (vs.drop x.toNat) 0) :: news) _ _ _ ((Fm.push _).push _) (News.push (Fm.push _) N' _) (.cons (below_all N') (.refl _)) (.head _) (o1.drop _ (by omega))
theorem stk_upto {x : Int} {tx : Tok} (Fm : Fr h₀ L s.heap m) (N : News h₀ L s.heap news) (h1 : (l, tupO vs k) ∈ news) (o1 : Ones vs n) (hx0 : 0 ≤ x) (hx : x ≤ (n : Int)) (hsz : n ≤ 16777216)
    (h : ∀ h' n' y zs kz, Fr h₀ L h' m → News h₀ L h' n' → Grow news n' → (y, tupO zs kz) ∈ n' → Ones zs x.toNat → Q (.ref y) { s with heap := h' })
    (hs : subscripted slice false (.ref l) (.ref s.heap.objs.size) = operate [.ref s.heap.objs.size, .ref l] (getItem (.ref l) (.ref s.heap.objs.size))) :
    wpAny (model prog w) A (subscriptTail value slice (.ref l) (.ref s.heap.objs.size)) Q E { s with heap := s.heap.push { cls := .type "slice", data := .fields #[.none, .int x tx, .none] } } := by
  have hl := (N _ h1).1
  have hsize : vs.toArray.size = n := by rw [List.size_toArray, o1.length]
  have ex : x = ((x.toNat : Nat) : Int) := by omega
  refine tup_upto (s := { s with heap := s.heap.push { cls := .type "slice", data := .fields #[.none, .int x tx, .none] } }) (items := vs.toArray) (n := k) (b := x.toNat) (tb := tx) (Heap.get?_push_of_some _ hl) (by rw [← ex]; exact Heap.get?_push_size _ rfl) (by rw [hsize]; omega) (by rw [hsize, sizeLine_eq]; exact hsz) (fun e => ?_) (fun e => ?_) hs
  · refine h _ _ _ _ _ (Fm.push _) (fun p hp => ⟨Heap.get?_push_of_some _ (N p hp).1, (N p hp).2⟩) (.refl _) h1 ?_
    rw [e, hsize]; exact o1
  · have N' : News h₀ L (s.heap.push { cls := .type "slice", data := .fields #[.none, .int x tx, .none] }) news := fun p hp => ⟨Heap.get?_push_of_some _ (N p hp).1, (N p hp).2⟩
    refine h _ (((s.heap.push { cls := .type "slice", data := .fields #[.none, .int x tx, .none] }).objs.size, tupO (vs.take x.toNat) 0) :: news) _ _ _ ((Fm.push _).push _) (News.push (Fm.push _) N' _) (.cons (below_all N') (.refl _)) (.head _) (o1.take _ (by omega))
theorem stk_len (N : News h₀ L s.heap news) (h1 : (l, tupO vs k) ∈ news) (o1 : Ones vs n) (hsz : n ≤ 16777216) (h : Q (.int (n : Int) (s.toks + 1)) { s with toks := s.toks + 1 + 1 }) :
    wpAny (model prog w) A (call (.builtin "len") [.ref l]) Q E s := by
  have e : vs.toArray.size = n := by rw [List.size_toArray, o1.length]
  exact P.len_tuple (N _ h1).1 (by rw [e]; omega) (by rw [e]; exact h)
end
end
section
set_option maxRecDepth 100000
/-- the ledger without what lies at a -/
def flt (a : Addr) (n : List (Addr × Obj)) : List (Addr × Obj) := n.filter fun p => decide (p.1 ≠ a)
theorem mem_flt {a : Addr} {n : List (Addr × Obj)} {p : Addr × Obj} (h : p ∈ n) (q : p.1 ≠ a) : p ∈ flt a n := List.mem_filter.mpr ⟨h, by simpa using q⟩
theorem flt_ne {a : Addr} {n : List (Addr × Obj)} : ∀ p ∈ flt a n, p.1 ≠ a := fun p h => by simpa using (List.mem_filter.mp h).2
theorem flt_mem {a : Addr} {n : List (Addr × Obj)} : ∀ p ∈ flt a n, p ∈ n := fun p h => (List.mem_filter.mp h).1
structure Sub (a b : List (Addr × Obj)) : Prop where
  mem : ∀ p ∈ a, p ∈ b
theorem Sub.flt {a b : List (Addr × Obj)} {d : Addr} (s : Sub a b) (h : ∀ p ∈ a, p.1 ≠ d) : Sub a (Mine.flt d b) := ⟨fun p hp => mem_flt (s.mem p hp) (h p hp)⟩
theorem Sub.cons {a b : List (Addr × Obj)} {x : Addr × Obj} (s : Sub a b) : Sub a (x :: b) := ⟨fun p hp => .tail _ (s.mem p hp)⟩
theorem Sub.trans {a b c : List (Addr × Obj)} (s : Sub a b) (t : Sub b c) : Sub a c := ⟨fun p hp => t.mem p (s.mem p hp)⟩
theorem Grow.sub {a b : List (Addr × Obj)} (g : Grow a b) : Sub a b := ⟨g.mem⟩
section
variable {prog : Program} {w : World} {A : Around} {E : Value → Shared → Prop} {s : Shared} {h₀ : Heap} {L D : Addr} {m : Str → Option Value} {n : List (Addr × Obj)} {c : Nat}
theorem news_flt {h : Heap} {o : Obj} {a : Addr} (N : News h₀ L h n) (hm : (a, o) ∈ n) : News h₀ L h ((a, o) :: flt a n) := fun p hp => by
  rcases List.mem_cons.mp hp with rfl | hp
  · exact N _ hm
  · exact N p (flt_mem p hp)
theorem app_list {us : List Value} {x : Value} {Q : Value → Shared → Prop} (F : Fr h₀ L s.heap m) (N : News h₀ L s.heap n) (hm : (D, listOf us.toArray c) ∈ n) (hsz : us.length ≤ 1000000)
    (h : ∀ h', Fr h₀ L h' m → News h₀ L h' ((D, listOf (us ++ [x]).toArray (c + 1)) :: flt D n) → Q .none { s with heap := h' }) : wpAny (model prog w) A (call (.builtin "list.append") [.ref D, x]) Q E s := by
  refine append_K F (news_flt N hm) (.head flt_ne) (fun h' F' N' => h h' F' ?_) (by rw [sizeLine_eq]; simp; omega)
  rw [show (us ++ [x]).toArray = us.toArray.push x by simp]
  exact N'
theorem pop_list {us : List Value} {W : List Nat} {w' : Nat} {Q : Value → Shared → Prop} (F : Fr h₀ L s.heap m) (N : News h₀ L s.heap n) (hm : (D, listOf us.toArray c) ∈ n) (hi : IntsAre us ((W ++ [w']).map Int.ofNat)) (hsz : us.length ≤ 1000000)
    (h : ∀ h' t us', Fr h₀ L h' m → News h₀ L h' ((D, listOf (List.toArray us') (c + 1)) :: flt D n) → IntsAre us' (W.map Int.ofNat) → Q (.int (w' : Int) t) { s with heap := h' }) : wpAny (model prog w) A (call (.builtin "list.pop") [.ref D]) Q E s := by
  have hl := hi.length
  refine kpa_pop F (news_flt N hm) (.head flt_ne) hi (by rw [hl]; simp) (by rw [sizeLine_eq]; omega) (fun h' t F' N' hi' => ?_)
  have e : ((W ++ [w']).map Int.ofNat).getLastD 0 = (w' : Int) := by simp
  rw [e]
  refine h h' t _ F' N' ?_
  simpa using hi'
theorem set_int {o : Obj} {kvs : List (Int × Value)} {k : Int} {t : Tok} {v : Value} {Q : Unit → Shared → Prop} (F : Fr h₀ L s.heap m) (N : News h₀ L s.heap n) (hm : (D, o) ∈ n) (hd : o.IsDictOf (PySem.intKind prog w) kvs) (hn : valueAt kvs k = none) (hsz : kvs.length ≤ 1000000)
    (h : ∀ h' o' tk', Fr h₀ L h' m → News h₀ L h' ((D, o') :: flt D n) → o'.IsDictOf (PySem.intKind prog w) (kvs ++ [(k, v)]) → Q () { s with heap := h', toks := tk' }) : wpAny (model prog w) A (setItem (.ref D) (.int k t) v) Q E s := by
  refine kda_set (knd := PySem.intKind prog w) F (news_flt N hm) (.head flt_ne) hd (intKind_is _ _ _ _) (by rw [sizeLine_eq]; omega) (fun h' o' F' N' hd' => h h' o' _ F' N' ?_)
  have e : stored kvs k v = kvs ++ [(k, v)] := by
    have hf : kvs.find? (fun kv => kv.1 = k) = none := by simpa [valueAt] using hn
    have ha : (kvs.any fun kv => kv.1 = k) = false := by
      rw [List.find?_eq_none] at hf
      rw [List.any_eq_false]
      exact hf
    unfold stored
    rw [ha]
    rfl
  rw [← e]; exact hd'
end
/-- an entry of found -/
inductive FsIn (n : List (Addr × Obj)) : Int × Value → Nat × Nat → Prop
  | mk {v : Value} {p k : Nat} : StkIn n v k → FsIn n ((p : Int), v) (p, k)
theorem FsIn.mono {n n' : List (Addr × Obj)} (hs : ∀ p ∈ n, p ∈ n') {a : Int × Value} {b : Nat × Nat} (h : FsIn n a b) : FsIn n' a b := by
  cases h with
  | mk s => exact .mk (s.mono hs)
theorem fs_at {n : List (Addr × Obj)} {kvs : List (Int × Value)} {fs : List (Nat × Nat)} (h : All2 (FsIn n) kvs fs) {p k : Nat} (hn : (fs.map (·.1)).Nodup) (hm : (p, k) ∈ fs) : ∃ v, valueAt kvs (p : Int) = some v ∧ StkIn n v k := by
  induction h with
  | nil => cases hm
  | @cons a b as bs hab _ ih =>
    cases hab with
    | @mk v p' k' s =>
      simp only [List.map_cons, List.nodup_cons] at hn
      by_cases e : p' = p
      · subst e
        rcases List.mem_cons.mp hm with e | hm
        · cases e
          exact ⟨v, by simp [valueAt], s⟩
        · exact absurd (List.mem_map.mpr ⟨_, hm, rfl⟩) hn.1
      · rcases List.mem_cons.mp hm with e' | hm
        · cases e'; exact absurd rfl e
        · obtain ⟨v', h1, h2⟩ := ih hn.2 hm
          refine ⟨v', ?_, h2⟩
          unfold valueAt at h1 ⊢
          rw [List.find?_cons_of_neg (by simpa using (fun q : (p' : Int) = p => e (by omega)))]
          exact h1
theorem fs_none {n : List (Addr × Obj)} {kvs : List (Int × Value)} {fs : List (Nat × Nat)} (h : All2 (FsIn n) kvs fs) {p : Nat} (hm : p ∉ fs.map (·.1)) : valueAt kvs (p : Int) = none := by
  induction h with
  | nil => rfl
  | @cons a b as bs hab _ ih =>
    cases hab with
    | @mk v p' k' s =>
      simp only [List.map_cons, List.mem_cons, not_or] at hm
      unfold valueAt
      rw [List.find?_cons_of_neg (by simpa using (fun q : (p' : Int) = p => hm.1 (by omega)))]
      exact ih hm.2
end
section
set_option maxRecDepth 100000
abbrev excO (t : Addr) (d : Option Addr) : Obj := { cls := .ref 118, dict := d, data := .fields #[.ref t, .none, .none, .none, .bool false, .none] }
section
variable {prog : Program} {w : World} {A : Around} {E : Value → Shared → Prop} {s : Shared} {h₀ : Heap} {L e t : Addr} {m : Str → Option Value} {news : List (Addr × Obj)} {Q : Value → Shared → Prop} {v : Value}
theorem exc_init_call (Fm : Fr h₀ L s.heap m) (X : (hd.heap_1 w.params).In s.heap) (N : News h₀ L s.heap ((e, excO t none) :: news)) (ne : ∀ p ∈ news, p.1 ≠ e)
    (h : ∀ h' t', Fr h₀ L h' m → News h₀ L h' ((e, excO t' none) :: (t', tupO [v] 0) :: news) → (∀ p ∈ (t', tupO [v] 0) :: news, p.1 ≠ e) → Q .none { s with heap := h' }) :
    wpAny (model prog w) A (call (.builtin "Exception.__init__") [.ref e, v]) Q E s := by
  have hC := X 118 _ rfl
  have he := (N _ (.head _)).1
  obtain ⟨hp, g, d, tk, os⟩ := s
  have FE := F.excBase_Exception
  refine wpAny_call (codeAny_call_builtin FE.init.plain FE.initEntry (wpAny_check_init_sub FE hC he rfl ?_))
  wp_walk
  have N1 : News h₀ L (hp.push (tupO [v] 0)) ([] ++ (e, excO t none) :: (hp.objs.size, tupO [v] 0) :: news) := fun p hq => by
    have := News.push Fm N (tupO [v] 0)
    rcases List.mem_cons.mp hq with rfl | hq
    · exact this _ (.tail _ (.head _))
    · rcases List.mem_cons.mp hq with rfl | hq
      · exact this _ (.head _)
      · exact this _ (.tail _ (.tail _ hq))
  have ne' : ∀ p ∈ (hp.objs.size, tupO [v] 0) :: news, p.1 ≠ e := fun p hq => by
    rcases List.mem_cons.mp hq with rfl | hq
    · exact Nat.ne_of_gt (Heap.lt_size he)
    · exact ne p hq
  obtain ⟨F2, N2⟩ := news_upd (f := Obj.mapFields fun x => x.setIfInBounds 0 (Value.ref hp.objs.size)) (o' := excO hp.objs.size none) (Fm.push _) N1 (fun _ hq => nomatch hq) ne' rfl rfl
  exact h _ hp.objs.size F2 N2 ne'
theorem refuse_bad (self : Value) : refuseLoop self "__setattr__" [.ref 118, .type "Exception", .type "BaseException", .type "object"] = pure () := by
  rw [refuseLoop_ref]
  kernel_rfl
theorem osa_bad {R : Result → Shared → Prop} {x : Addr} {ox : Obj} {od : Option Obj} {name : Str} {tk : Tok} (X : (hd.heap_1 w.params).In s.heap) (I : InstAt s.heap x ox 118 od) (hn : findIn (hd.heap_1 w.params) (.ref 118) name = some none)
    (h : ∀ b, wpAny (model prog w) A.in1 (PySem.Builtin.ObjectAttr.storeInOwnDict (.ref x) (.ref 118) (.str name tk) name v b)
      (fun fin s' => match fin with | .done f => R (.ok f) s' | .again c' => c'.quiet = true ∧ codeAny (model prog w) A c' R s') (fun e s' => R (.error e) s') s) :
    codeAny (model prog w) A (.call (.builtin "object.__setattr__") ⟨[.ref x, .str name tk, v], []⟩) R s := by
  have SF := PySem.F.store_object
  have hc : clsIn (hd.heap_1 w.params) 118 = some { name := Str.ofString "BadCode", bases := [Value.type "Exception"], mro := [Value.ref 118, Value.type "Exception", Value.type "BaseException", Value.type "object"], ns := 117, qualname := Str.ofString "BadCode" } := rfl
  have sub : Looks (model prog w) s.heap (isInstance (.ref x) (.type "object")) true := I.type.andThen (looks_mroIn X (by unfold mroIn; rw [hc]; rfl))
  refine codeAny_call_builtin SF.slot.plain SF.entry (@check_slot (model prog w) _ _ s "object.__setattr__" "object" "__setattr__" (.ref x) [.str name tk, v] [] _ SF.kind SF.split sub (SF.args (.ref x) (.str name tk) v) ?_)
  have hm : Looks (model prog w) s.heap (mroOf (.ref 118)) [Value.ref 118, Value.type "Exception", Value.type "BaseException", Value.type "object"] := (looks_clsIn X hc).andThen .now
  rw [osa_eq, refuse_eq]
  refine wpAny_bind (wpAny_bind (I.type.here (wpAny_bind (hm.here ?_))))
  rw [refuse_bad]
  refine wpAny_pure (wpAny_bind (I.type.here (wpAny_bind ((looks_findIn X hn).here (wpAny_bind (wpAny_pure ?_))))))
  exact h _
end
end
section
set_option maxRecDepth 100000
/-- a BadCode in flight out of the frames ahead of l -/
def BadFly (base : Heap) (l : List Env) (e : Addr) (news : List (Addr × Obj)) (h : Heap) : Prop :=
  ∃ B a0, base.StaysIn B ∧ (∀ q ∈ news, B.get? q.1 = some q.2 ∧ base.get? q.1 = none) ∧ Heap.FlyingW B l e (.ref 118) a0 h
section
variable {M : Model} {A : Around} {E : Value → Shared → Prop} {s' : Shared} {base g h : Heap} {outer : List Env} {L e t d : Addr} {m : Str → Option Value} {Q : Unit → Shared → Prop} {news n₁ : List (Addr × Obj)} {env : Env} {A₁ : Around}
theorem bad_first (K : Below A₁ base outer g) (hfr : A.frames = some (env :: outer)) (hf : env.frame = some L) (hk : env.scope.kind = .function) (F : Fr g L s'.heap m) (N : News g L s'.heap n₁) (he : (e, excO t (some d)) ∈ n₁) (hs : ∀ p ∈ news, p ∈ n₁ ∧ p.1 ≠ e)
    (hQ : ∀ h', BadFly base outer e news h' → g.UpToSlots h' → Q () { s' with heap := h' }) : wpAny M A (leaving env (.ref e)) Q E s' := by
  have K' := pushX (env := env) K F hf hk
  have hin : ∀ v ∈ (env :: outer), ∀ b, v.frame = some b → b ∈ (env :: outer).filterMap (·.frame) := fun v hv b hb => List.mem_filterMap.mpr ⟨v, hv, hb⟩
  have notFrame : ∀ q ∈ n₁, q.1 ∉ (env :: outer).filterMap (·.frame) := fun q hq hm => by
    obtain ⟨v, hv, hvf⟩ := List.mem_filterMap.mp hm
    rcases List.mem_cons.mp hv with rfl | hv
    · rw [hf] at hvf; exact (N q hq).2.1 (Option.some.inj hvf).symm
    · obtain ⟨o, ho, _⟩ := (K.frames.mem (List.mem_filterMap.mpr ⟨v, hv, hvf⟩)).2
      rw [(N q hq).2.2] at ho; cases ho
  have ebase : base.get? e = none := fresh_of_stays K.stays (N _ he).2.2
  have st : base.StaysIn (hideAll s'.heap (e :: (env :: outer).filterMap (·.frame))) := fun b o q => hideAll_get _ (K'.stays b o q) fun hm => by
    rcases List.mem_cons.mp hm with rfl | hm
    · rw [ebase] at q; cases q
    · rw [(K'.frames.mem hm).1] at q; cases q
  have hl : ∀ q ∈ news, (hideAll s'.heap (e :: (env :: outer).filterMap (·.frame))).get? q.1 = some q.2 ∧ base.get? q.1 = none := fun q hq => by
    obtain ⟨h1, h2⟩ := hs q hq
    refine ⟨hideAll_get _ (N q h1).1 fun hm => ?_, fresh_of_stays K.stays (N q h1).2.2⟩
    rcases List.mem_cons.mp hm with hm | hm
    · exact h2 hm
    · exact notFrame q h1 hm
  have hfun : s'.heap.FunFrames (hideAll s'.heap (e :: (env :: outer).filterMap (·.frame))) (env :: outer) := funFrames_hide K'.frames fun v hv a ha => .tail _ (hin v hv a ha)
  refine wpAny_leaving_firstW (a0 := .ref t) hfr hfun hf (N _ he).1 (fun b o q => of_hideAll _ q) (hideAll_none _ (.head _)) rfl rfl rfl fun h' hL => ?_
  obtain ⟨k1, ⟨_, _, k2⟩, k3, k4⟩ := hL
  exact hQ h' ⟨_, _, st, hl, k1, hideAll_none _ (.head _), k2, k3⟩ ((Heap.UpToSlots.of_keeps F.keep).trans k4)
theorem bad_leave {g₂ : Heap} {m₂ : Str → Option Value} (hfr : A.frames = some (env :: outer)) (hf : env.frame = some L) (R : BadFly base (env :: outer) e n₁ s'.heap) (F : Fr g L g₂ m₂) (hsm : g₂.UpToSlots s'.heap) (hs : ∀ p ∈ news, p ∈ n₁)
    (hQ : ∀ h', BadFly base outer e news h' → g.UpToSlots h' → Q () { s' with heap := h' }) : wpAny M A (leaving env (.ref e)) Q E s' := by
  obtain ⟨B, a0, hB, hl, hfl⟩ := R
  exact wpAny_leaves_onW hfr hf hfl fun h' x1 x2 => hQ h' ⟨B, a0, hB, fun q hq => hl q (hs q hq), x1⟩ ((Heap.UpToSlots.of_keeps F.keep).trans (hsm.trans x2))
end
section
variable {prog : Program} {w : World} {A : Around} {E : Value → Shared → Prop} {s : Shared} {env : Env}
theorem raise_bad {ex : PySem.Expr} {pos : Pos} {Q : Flow → Shared → Prop} (hh : A.handled = none)
    (h : wpAny (model prog w) A (eval ex env) (fun v s₁ => ∃ e t d, v = .ref e ∧ (hd.heap_1 w.params).In s₁.heap ∧ s₁.heap.get? e = some (excO t d) ∧ E (.ref e) s₁) E s) :
    wpAny (model prog w) A (exec (.Raise (some ex) none pos) env) Q E s := by
  show wpAny _ A (do standAt pos; raiseStmt env (some (do let v ← eval ex env; standAt pos; pure v)) none) Q E s
  refine wpAny_bind (wpAny_standAt ?_)
  unfold raiseStmt
  refine wpAny_bind (wpAny_bind (wpAny_mono h (fun v s₁ h₁ => wpAny_bind (wpAny_standAt (wpAny_pure ?_))) fun _ _ x => x))
  obtain ⟨e, t, d, rfl, X, he, hE⟩ := h₁
  have hC := X 118 _ rfl
  obtain ⟨hp, g, dr, tk, os⟩ := s₁
  have hcB : (Value.ref 118 :: [.type "Exception", .type "BaseException", .type "object"]).contains (.type "BaseException") = true := by decide
  repeat (first | with_reducible refine wpAny_loadPart_at he ?_ | with_reducible refine wpAny_loadPart_at hC ?_ | (with_reducible refine wpAny_isSubtype_exc hC ?_; rw [hcB]) | wp_step)
  exact wpAny_raiseNew_none hh hE
end
end
section
set_option maxRecDepth 100000
section
variable {prog : Program} {w : World} {A : Around} {E : Value → Shared → Prop} {Q : Flow → Shared → Prop} {s : Shared} {env : Env} {h₀ : Heap} {L : Addr}
/-- a goal at which the walker rests -/
structure Rest (p : Prop) : Prop where
  out : p
def WhEnd (h₀ : Heap) (L : Addr) (s : Shared) (J : Nat → (Str → Option Value) → List (Addr × Obj) → Prop) (n : Nat) (Q : Flow → Shared → Prop) (f : Flow) (s₃ : Shared) : Prop :=
  match f with
  | .ret v => Q (.ret v) s₃
  | .brk => Q .next s₃
  | _ => Rest (∃ h' tk m₂ news₂ n', s₃ = { s with heap := h', toks := tk } ∧ Fr h₀ L h' m₂ ∧ News h₀ L h' news₂ ∧ n' < n ∧ J n' m₂ news₂)
theorem While_J {test : PySem.Expr} {body : List Stmt} {pos : Pos} {m : Str → Option Value} {news : List (Addr × Obj)} (J : Nat → (Str → Option Value) → List (Addr × Obj) → Prop) {n₀ : Nat}
    (hE : PassesOwn (model prog w) A env E) (F : Fr h₀ L s.heap m) (N : News h₀ L s.heap news) (hJ : J n₀ m news)
    (turn : ∀ n m₁ news₁ h₁ tk₁, Fr h₀ L h₁ m₁ → News h₀ L h₁ news₁ → J n m₁ news₁ →
      wpAny (model prog w) A (isTrue test env (eval test env)) (fun b s₂ =>
        WhlIf b (wpAny (model prog w) A (execs body env) (WhEnd h₀ L s J n Q) E s₂) (Q .next s₂)) E { s with heap := h₁, toks := tk₁ }) :
    wpAny (model prog w) A (exec (.While test body [] pos) env) Q E s := by
  have gen : ∀ n m₁ news₁ h₁ tk₁, Fr h₀ L h₁ m₁ → News h₀ L h₁ news₁ → J n m₁ news₁ → WhlRest prog w A E env test body [] Q (n + 1) { s with heap := h₁, toks := tk₁ } := by
    intro n
    induction n using Nat.strongRecOn with
    | ind n ih =>
      intro m₁ news₁ h₁ tk₁ F₁ N₁ J₁
      refine whl_turn hE (wpAny_mono (turn n m₁ news₁ h₁ tk₁ F₁ N₁ J₁) (fun b s₂ h₂ => ?_) fun _ _ e => e)
      cases b with
      | false => exact wpAny_execs_nil h₂
      | true =>
        refine wpAny_mono h₂ (fun f s₃ h₃ => ?_) fun _ _ e => e
        cases f with
        | ret v => exact h₃
        | brk => exact h₃
        | next => obtain ⟨h', tk, m₂, news₂, n', rfl, F₂, N₂, hn, J₂⟩ := h₃.out; exact ih n' hn m₂ news₂ h' tk F₂ N₂ J₂
        | cont => obtain ⟨h', tk, m₂, news₂, n', rfl, F₂, N₂, hn, J₂⟩ := h₃.out; exact ih n' hn m₂ news₂ h' tk F₂ N₂ J₂
  exact whl_start _ (gen n₀ m news s.heap s.toks F N hJ)
end
theorem map_one {m : Str → Option Value} {a : Str} {x : Value} (h : m a = some x) : m = fun y => if y = a then some x else m y := by
  funext y
  by_cases e : y = a
  · rw [if_pos e, e, h]
  · rw [if_neg e]
section
variable {prog : Program} {w : World} {A : Around} {E : Value → Shared → Prop} {s : Shared} {h₀ : Heap} {L D x y a b : Addr} {m : Str → Option Value} {news : List (Addr × Obj)} {c c' k k' : Nat} {o : Obj} {kvs : List (Int × Value)} {fs : List (Nat × Nat)}
theorem ints_len {us : List Value} {W : List Nat} {Q : Value → Shared → Prop} (N : News h₀ L s.heap news) (hm : (D, listOf us.toArray c) ∈ news) (hi : IntsAre us (W.map Int.ofNat)) (hfit : W.length ≤ 1000000)
    (h : Q (.int (W.length : Int) (s.toks + 1)) { s with toks := s.toks + 1 + 1 }) : wpAny (model prog w) A (call (.builtin "len") [.ref D]) Q E s := by
  have hl : s.heap.IsList D us.toArray := ⟨_, (N _ hm).1, rfl, c, rfl⟩
  have e : us.toArray.size = W.length := by rw [List.size_toArray, hi.length, List.length_map]
  exact len_list hl (by rw [e]; omega) (by rw [e]; exact h)
theorem fs_item {value slice : PySem.Expr} {p : Nat} {t : Tok} {Q : Value → Shared → Prop} (N : News h₀ L s.heap news) (hp : (D, o) ∈ news) (hd : o.IsDictOf (PySem.intKind prog w) kvs) (hA : All2 (FsIn news) kvs fs) (hn : (fs.map (·.1)).Nodup) (hm : (p, k) ∈ fs)
    (h : ∀ x ws ks, (x, tupO ws ks) ∈ news → Ones ws k → Q (.ref x) { s with toks := s.toks + 1 })
    (hs : subscripted slice false (.ref D) (.int (p : Int) t) = operate [.ref D, .int (p : Int) t] (getItem (.ref D) (.int (p : Int) t)) := by with_unfolding_all rfl) (hg : ∀ r, letTemporaryGo value (.ref D) r = pure () := by intro _; with_unfolding_all rfl) :
    wpAny (model prog w) A (subscriptTail value slice (.ref D) (.int (p : Int) t)) Q E s := by
  obtain ⟨v, hv, hS⟩ := fs_at hA hn hm
  cases hS with
  | mk h1 h2 => exact kda_item (knd := PySem.intKind prog w) N hp hd (intKind_is _ _ _ _) hv (h _ _ _ h1 h2) hs hg
theorem fs_notin {p : Nat} {t : Tok} {Q : Value → Shared → Prop} (N : News h₀ L s.heap news) (hp : (D, o) ∈ news) (hd : o.IsDictOf (PySem.intKind prog w) kvs) (lo : (D == sysModules) = false) (hA : All2 (FsIn news) kvs fs) (hn : (fs.map (·.1)).Nodup)
    (h1 : p ∉ fs.map (·.1) → Q (.bool true) { s with toks := s.toks + 1 }) (h2 : ∀ k, (p, k) ∈ fs → Q (.bool false) { s with toks := s.toks + 1 }) :
    wpAny (model prog w) A (compareOp .NotIn (.int (p : Int) t) (.ref D)) Q E s := by
  by_cases e : p ∈ fs.map (·.1)
  · obtain ⟨q, hq, rfl⟩ := List.mem_map.mp e
    obtain ⟨v, hv, _⟩ := fs_at hA hn (p := q.1) (k := q.2) hq
    exact kdg_notin (knd := PySem.intKind prog w) N hp hd lo (intKind_is _ _ _ _) true (by rw [hv]; rfl) (h2 q.2 hq)
  · exact kdg_notin (knd := PySem.intKind prog w) N hp hd lo (intKind_is _ _ _ _) false (by rw [fs_none hA e]; rfl) (h1 e)
theorem ones_reads : ∀ {ws : List Value} {n : Nat}, Ones ws n → ReadsAll s.heap ws (List.replicate n (PyData.int (-1))) []
  | _, _, .nil => .nil
  | _, _, .cons h => by
    rw [List.replicate_succ]
    exact readsAll_cons_val (.int _ _) (ones_reads h)
theorem ones_lay (n : Nat) : PyData.canLayAll0 (List.replicate n (PyData.int (-1))) = true := by
  induction n with
  | zero => rfl
  | succ n ih => simp [List.replicate_succ, PyData.canLayAll0, PyData.canLay0, ih]
theorem ones_depth (n : Nat) : PyData.depthAll (List.replicate n (PyData.int (-1))) = 0 := by
  induction n with
  | zero => rfl
  | succ n ih => simp [List.replicate_succ, PyData.depthAll, PyData.depth, ih]
theorem ones_shaped (n : Nat) : SeqAt.shaped (.tuple (List.replicate n (PyData.int (-1)))) = true := by
  simp [SeqAt.shaped, PyData.canLay0, PyData.depth, ones_lay, ones_depth]
theorem ones_eqv : ∀ n k : Nat, PyData.eqvAll (List.replicate n (PyData.int (-1))) (List.replicate k (PyData.int (-1))) = decide (n = k)
  | 0, 0 => by simp [PyData.eqvAll]
  | 0, k + 1 => by simp [List.replicate_succ, PyData.eqvAll]
  | n + 1, 0 => by simp [List.replicate_succ, PyData.eqvAll]
  | n + 1, k + 1 => by simp [List.replicate_succ, PyData.eqvAll, PyData.eqv, ones_eqv n k]
theorem ones_ne {ws zs : List Value} {n n' : Nat} {Q : Value → Shared → Prop} (N : News h₀ L s.heap news) (h1 : (x, tupO ws k) ∈ news) (o1 : Ones ws n) (h2 : (y, tupO zs k') ∈ news) (o2 : Ones zs n') (hu : A.units + 64 < cLine)
    (hno : n ≠ n' → Q (.bool true) s) (hye : n = n' → Q (.bool false) s) : wpAny (model prog w) A (compareOp .NotEq (.ref x) (.ref y)) Q E s := by
  refine ne_dataH (reads_tuple_at (N _ h1).1 rfl rfl (by simpa using ones_reads o1)) (reads_tuple_at (N _ h2).1 rfl rfl (by simpa using ones_reads o2)) (ones_shaped n) (ones_shaped n') hu ?_
  have e : PyData.eqv (.tuple (List.replicate n (PyData.int (-1)))) (.tuple (List.replicate n' (PyData.int (-1)))) = decide (n = n') := by simp only [PyData.eqv]; exact ones_eqv n n'
  rw [e]
  by_cases q : n = n'
  · rw [decide_eq_true q]; exact hye q
  · rw [decide_eq_false q]; exact hno q
theorem lists_add {xs ys : List Value} {Q : Value → Shared → Prop} (F : Fr h₀ L s.heap m) (N : News h₀ L s.heap news) (h1 : (a, listOf xs.toArray c) ∈ news) (h2 : (b, listOf ys.toArray c') ∈ news) (hsz : xs.length + ys.length ≤ 16777216)
    (h : ∀ l h', Fr h₀ L h' m → News h₀ L h' ((l, listOf (xs ++ ys).toArray 0) :: news) → (∀ p ∈ news, p.1 < l) → Q (.ref l) { s with heap := h' }) : wpAny (model prog w) A (binaryOp .Add (.ref a) (.ref b)) Q E s := by
  refine add_arrays F N ⟨_, (N _ h1).1, rfl, c, rfl⟩ ⟨_, (N _ h2).1, rfl, c', rfl⟩ (fun h' F' N' => h _ h' F' N' (below_all N)) ?_
  rw [sizeLine_eq]
  simpa using hsz
end
theorem news_apart {h₀ h : Heap} {L a b : Addr} {n : List (Addr × Obj)} {o o' : Obj} (N : News h₀ L h n) (h1 : (a, o) ∈ n) (h2 : (b, o') ∈ n) (hc : o.cls ≠ o'.cls) : a ≠ b := by
  rintro rfl
  have := (N _ h1).1
  rw [(N _ h2).1] at this
  cases this
  exact hc rfl
theorem BadFly.mono {base : Heap} {l : List Env} {e : Addr} {n n' : List (Addr × Obj)} {h : Heap} (R : BadFly base l e n h) (hs : ∀ p ∈ n', p ∈ n) : BadFly base l e n' h := by
  obtain ⟨B, a0, h1, h2, h3⟩ := R
  exact ⟨B, a0, h1, fun q hq => h2 q (hs q hq), h3⟩
end
section
set_option maxRecDepth 100000
set_option maxHeartbeats 2000000
theorem upd_entry : entryFor table "dict.update.loop" = some Builtin.«dict.update.loop» := entryFor_of_tree (by kernel_rfl)
theorem upd_plain : plainId "dict.update.loop" = true := by decide +kernel
theorem keys_miss : typeLookup (.type "list") (Str.ofString "keys") = pure none := am_miss_of_fast (by kernel_rfl)
/-- a pair of a place and True -/
inductive PTin (n : List (Addr × Obj)) : Value → Nat → Prop
  | mk {x : Addr} {t : Tok} {k p : Nat} : (x, tupO [.int (p : Int) t, .bool true] k) ∈ n → PTin n (.ref x) p
section
variable {prog : Program} {w : World} {A : Around} {E : Value → Shared → Prop} {s : Shared} {h₀ : Heap} {L : Addr} {m : Str → Option Value} {n : List (Addr × Obj)}
theorem list_no_keys {a : Addr} {xs : Array Value} {k : Nat} {Q : Option Value → Shared → Prop} (hx : s.heap.get? a = some (listOf xs k)) (hA : A.handled = none)
    (h : ∀ h' tk, (∀ b ob, s.heap.get? b = some ob → h'.get? b = some ob) → Q none { s with heap := h', toks := tk }) :
    wpAny (model prog w) A (getAttr? (.ref a) (Str.ofString "keys")) Q E s := by
  obtain ⟨hp, g, d, tk, os⟩ := s
  have hT : ∀ tk', (⟨hp, g, d, tk', os⟩ : Shared).TypeIs (.ref a) "list" := fun _ => ⟨_, hx, rfl⟩
  have f1 := sub_AttributeError
  have f3 := PySem.F.slot_list_getattribute.lookup
  have f4 := PySem.F.slot_list_getattribute.bind (.ref a)
  have f5 := am_list_getattr_none
  unfold getAttr? getAttrBy? getAttrBy
  repeat (any_goals (first | assumption | exact hT _ | ((with_reducible show wpAny _ _ (call (Value.builtin "list.__getattribute__") _ _) _ _ _); refine call_meets PySem.F.slot_list_getattribute (hT _) am_entry_list_getattribute (PySem.F.args_list_getattribute_2 _ _) (meets_getattribute_miss_list a xs k #[] (Str.ofString "keys") _ keys_miss (by decide +kernel)) ⟨hx, hA, fun h' tk' e hx' => ?_⟩) | wp_step))
  obtain ⟨t', u', he⟩ := hx'.there
  show wpAny _ _ (getattributeRaised _ _ _ _ _ _ _) _ _ _
  unfold getattributeRaised
  repeat (any_goals (first | assumption | wp_step))
  exact h _ _ hx'.keeps
end
end
section
set_option maxRecDepth 100000
set_option maxHeartbeats 2000000
def putP (kvs : List (Int × Value)) (p : Nat) : List (Int × Value) := stored kvs (p : Int) (.bool true)
theorem putP_len (kvs : List (Int × Value)) (p : Nat) : (putP kvs p).length ≤ kvs.length + 1 := by
  unfold putP stored
  split <;> simp
theorem fold_len : ∀ (ps : List Nat) (kvs : List (Int × Value)), (ps.foldl putP kvs).length ≤ kvs.length + ps.length
  | [], _ => by simp
  | p :: ps, kvs => by
    have h1 := fold_len ps (putP kvs p)
    have h2 := putP_len kvs p
    simp only [List.foldl_cons, List.length_cons]
    omega
theorem putP_keys (kvs : List (Int × Value)) (p : Nat) : (putP kvs p).map (·.1) = if (p : Int) ∈ kvs.map (·.1) then kvs.map (·.1) else kvs.map (·.1) ++ [(p : Int)] := by
  unfold putP stored
  by_cases h : (p : Int) ∈ kvs.map (·.1)
  · rw [if_pos h]
    have ha : (kvs.any fun kv => decide (kv.1 = (p : Int))) = true := by
      obtain ⟨kv, hm, e⟩ := List.mem_map.mp h
      exact List.any_eq_true.mpr ⟨kv, hm, by simpa using e⟩
    rw [if_pos ha, List.map_map]
    apply List.map_congr_left
    intro kv _
    simp only [Function.comp_apply]
    split <;> rfl
  · rw [if_neg h]
    have ha : (kvs.any fun kv => decide (kv.1 = (p : Int))) = false := by
      rw [List.any_eq_false]
      intro kv hm e
      exact h (List.mem_map.mpr ⟨kv, hm, by simpa using e⟩)
    rw [if_neg (by rw [ha]; exact Bool.false_ne_true), List.map_append]
    rfl
/-- the keys that a dict has of a list of places -/
theorem fold_full : ∀ (ps : List Nat) (kvs : List (Int × Value)), (kvs.map (·.1)).Nodup → ((ps.foldl putP kvs).length = kvs.length + ps.length ↔ ps.Nodup ∧ ∀ p ∈ ps, (p : Int) ∉ kvs.map (·.1))
  | [], kvs, _ => by simp
  | p :: ps, kvs, hn => by
    have hk := putP_keys kvs p
    have hle := fold_len ps (putP kvs p)
    have hl : (putP kvs p).length = ((putP kvs p).map (·.1)).length := by simp
    simp only [List.foldl_cons, List.length_cons, List.nodup_cons]
    by_cases h : (p : Int) ∈ kvs.map (·.1)
    · rw [if_pos h] at hk
      rw [hk, List.length_map] at hl
      constructor
      · intro e; omega
      · intro e; exact absurd h (e.2 p (.head _))
    · rw [if_neg h] at hk
      have hl2 : (putP kvs p).length = kvs.length + 1 := by rw [hl, hk]; simp
      have hn2 : ((putP kvs p).map (·.1)).Nodup := by
        rw [hk, List.nodup_append]
        refine ⟨hn, by simp, ?_⟩
        intro a ha b hb e
        simp at hb
        exact h (by rw [← hb, ← e]; exact ha)
      have ih := fold_full ps (putP kvs p) hn2
      rw [hl2] at ih
      constructor
      · intro e
        obtain ⟨i1, i2⟩ := ih.mp (by omega)
        refine ⟨⟨fun hm => ?_, i1⟩, fun q hq => ?_⟩
        · exact i2 p hm (by rw [hk]; simp)
        · rcases List.mem_cons.mp hq with rfl | hq
          · exact h
          · intro hc
            exact i2 q hq (by rw [hk]; exact List.mem_append_left _ hc)
      · rintro ⟨⟨i1, i2⟩, i3⟩
        have := ih.mpr ⟨i2, fun q hq hc => by
          rw [hk] at hc
          rcases List.mem_append.mp hc with hc | hc
          · exact i3 q (.tail _ hq) hc
          · simp at hc
            have : q = p := by omega
            exact i1 (this ▸ hq)⟩
        omega
section
variable {prog : Program} {w : World} {A : Around} {E : Value → Shared → Prop} {s : Shared} {h₀ : Heap} {L : Addr} {m : Str → Option Value} {n : List (Addr × Obj)}
theorem upd_loop {D I ax : Addr} {items : Array Value} {ps : List Nat} {R : Result → Shared → Prop} (hh : A.handled = none) (hDI : D ≠ I) (hDa : D ≠ ax) (hIa : ax ≠ I) (hsz : items.size ≤ 1000000) (hl : ps.length = items.size) :
    ∀ (k i : Nat) (s : Shared) (kvs : List (Int × Value)), items.size - i = k → i ≤ items.size → kvs.length ≤ i → s.heap.IsListIter I ax i → s.heap.IsList ax items → s.heap.DictOf (PySem.intKind prog w) D kvs →
      (∀ (j : Nat) (v : Value) (p : Nat), items[j]? = some v → ps[j]? = some p → ∃ x t c, v = .ref x ∧ x ≠ D ∧ x ≠ I ∧ s.heap.get? x = some (tupO [.int (p : Int) t, .bool true] c)) →
      (∀ h' tk, (∀ b o, b ≠ D → b ≠ I → s.heap.get? b = some o → h'.get? b = some o) → h'.DictOf (PySem.intKind prog w) D ((ps.drop i).foldl putP kvs) → R (.ok (.ret .none)) { s with heap := h', toks := tk }) →
      codeAny (model prog w) A (.builtin "dict.update.loop" ⟨[.ref D, .ref I, rawInt i, .none], []⟩) R s := by
  have Wk := Walks.list (prog := prog) (w := w) (A := A.in1) hh I ax hIa items
  intro k
  induction k with
  | zero =>
    intro i s kvs hk hi hkl hI hL hD ht hR
    obtain rfl : i = items.size := by omega
    refine codeAny_builtin upd_entry ?_
    rw [Around.under_plainId upd_plain _]
    show wpAny _ A.in1 (pyNext (.ref I) >>= _) _ _ s
    refine wpAny_bind (Wk.done s _ _ ⟨hI, hL⟩ fun h' tk hm => ?_)
    have hdrop : ps.drop items.size = [] := by rw [← hl]; exact List.drop_length
    rw [hdrop] at hR
    refine wpAny_bind (wpAny_pure ?_)
    exact wpAny_pure (hR h' tk (fun b o _ hb e => hm b o (by simpa using hb) e) (by
      obtain ⟨o, es, ep, ho, r⟩ := hD
      exact ⟨o, es, ep, hm _ _ (by simpa using hDI) ho, r⟩))
  | succ k ih =>
    intro i s kvs hk hi hkl hI hL hD ht hR
    have hlt : i < items.size := by omega
    have hlt2 : i < ps.length := by omega
    refine codeAny_builtin upd_entry ?_
    rw [Around.under_plainId upd_plain _]
    show wpAny _ A.in1 (pyNext (.ref I) >>= _) _ _ s
    refine wpAny_bind (Wk.item i s _ _ hlt ⟨hI, hL⟩ fun v h₁ tk₁ hv st₁ hm₁ => ?_)
    obtain ⟨x, t, c, rfl, hxD, hxI, hx⟩ := ht i v ps[i] hv (List.getElem?_eq_getElem hlt2)
    have hx₁ : h₁.get? x = some (tupO [.int (ps[i] : Int) t, .bool true] c) := hm₁ _ _ (by simpa using hxI) hx
    have hD₁ : h₁.DictOf (PySem.intKind prog w) D kvs := by
      obtain ⟨o, es, ep, ho, r⟩ := hD
      exact ⟨o, es, ep, hm₁ _ _ (by simpa using hDI) ho, r⟩
    refine wpAny_bind (wpAny_holding ?_)
    refine wpAny_bind (wpAny_tryCatch ?_)
    unfold Builtin.Dict.pairItems
    refine wpAny_bind (wpAny_typeOf (T := "tuple") ⟨_, hx₁, rfl⟩ ?_)
    simp only [show (Value.type "tuple" == Value.type "list" || Value.type "tuple" == Value.type "tuple") = true by decide, if_true]
    refine wpAny_bind (wpAny_seqItems hx₁ rfl (wpAny_pure ?_))
    show wpAny _ _ (holding [Value.int (ps[i] : Int) t, Value.bool true] (dictSet D (Value.int (ps[i] : Int) t) (Value.bool true))) _ _ _
    refine wpAny_holding (wpAny_dictSet_pairs (knd := PySem.intKind prog w) (k := (ps[i] : Int)) (intKind_is _ _ _ _) hD₁ (fun h₂ hD₂ hs₂ => ?_) (by rw [sizeLine_eq]; omega))
    refine wpAny_pure ⟨plainId_quiet upd_plain _, ?_⟩
    have keep : ∀ b o, b ≠ D → b ≠ I → s.heap.get? b = some o → h₂.get? b = some o := fun b o h1 h2 e => hs₂.extBut b o h1 (hm₁ b o (by simpa using h2) e)
    refine ih (i + 1) { s with heap := h₂, toks := tk₁ + 1 } (putP kvs ps[i]) (by omega) (by omega) (by have := putP_len kvs ps[i]; omega)
      (by obtain ⟨o, ho, r⟩ := st₁.1; exact ⟨o, hs₂.extBut _ _ (Ne.symm hDI) ho, r⟩) (by obtain ⟨o, ho, r⟩ := st₁.2; exact ⟨o, hs₂.extBut _ _ (Ne.symm hDa) ho, r⟩) hD₂ (fun j v p hj hp => ?_) (fun h' tk hk' hD' => ?_)
    · obtain ⟨x, t, c, e, h1, h2, h3⟩ := ht j v p hj hp
      exact ⟨x, t, c, e, h1, h2, keep _ _ h1 h2 h3⟩
    · refine hR h' tk (fun b o h1 h2 e => hk' b o h1 h2 (keep b o h1 h2 e)) ?_
      rw [List.drop_eq_getElem_cons hlt2, List.foldl_cons]
      exact hD'
end
end
section
set_option maxRecDepth 100000
theorem kind_none {i : Ins} (h : i.arg = none) : i.kind = Str.ofString "" := by cases i <;> first | rfl | cases h
theorem kind_some {i : Ins} {t : Nat} (h : i.arg = some t) : i.kind = Str.ofString "t" := by cases i <;> first | rfl | cases h
section
variable {prog : Program} {w : World} {A : Around} {E : Value → Shared → Prop} {s : Shared} {value slice : PySem.Expr} {Q : Value → Shared → Prop} {u : Tok} {h₀ : Heap} {L C : Addr} {m : Str → Option Value} {news : List (Addr × Obj)} {vs : List Value} {k pc : Nat}
theorem code_item {i : Ins} {code : List Ins}
    (N : News h₀ L s.heap news) (hm : (C, listOf vs.toArray k) ∈ news) (hA : All2 (InsIn news) vs code) (hi : code[pc]? = some i) (hfit : code.length < 2 ^ 62) (hw : ∀ t, i.arg = some t → t < code.length)
    (h1 : ∀ x t n, (x, tupO [.int i.op t, .none] n) ∈ news → i.arg = none → i.kind = Str.ofString "" → Q (.ref x) s)
    (h2 : ∀ x t n (a : Nat) b, (x, tupO [.int i.op t, .int (a : Int) b] n) ∈ news → i.arg = some a → i.kind = Str.ofString "t" → a < code.length → i.op ≠ 6 → Q (.ref x) s)
    (hs : subscripted slice false (.ref C) (.int (pc : Int) u) = operate [.ref C, .int (pc : Int) u] (getItem (.ref C) (.int (pc : Int) u)) := by with_unfolding_all rfl) :
    wpAny (model prog w) A (subscriptTail value slice (.ref C) (.int (pc : Int) u)) Q E s := by
  have hlt : pc < code.length := (List.getElem?_eq_some_iff.mp hi).1
  have hl : s.heap.IsList C vs.toArray := ⟨_, (N _ hm).1, rfl, k, rfl⟩
  obtain ⟨v, hv, hI⟩ := hA.get hi
  refine tail_any hl.typeIs slot_list_getitem.lookup (wpAny_getItem_list (x := v) hl (by omega) (by omega) (by simpa using hv) ?_) hs
  cases hI with
  | mk hx ha =>
    generalize hb : i.arg = b at ha
    cases ha with
    | none => exact h1 _ _ _ hx hb (kind_none hb)
    | int t k => exact h2 _ _ _ _ _ hx hb (kind_some hb) (hw _ hb) (Ins.pop_arg hb)
theorem all2_len {α : Type} {R : Value → α → Prop} {code : List α}
    (N : News h₀ L s.heap news) (hm : (C, listOf vs.toArray k) ∈ news) (hA : All2 R vs code) (hfit : code.length < 2 ^ 62)
    (h : Q (.int (code.length : Int) (s.toks + 1)) { s with toks := s.toks + 1 + 1 }) : wpAny (model prog w) A (call (.builtin "len") [.ref C]) Q E s := by
  have hl : s.heap.IsList C vs.toArray := ⟨_, (N _ hm).1, rfl, k, rfl⟩
  have e : vs.toArray.size = code.length := by rw [List.size_toArray, hA.length]
  exact len_list hl (by rw [e]; omega) (by rw [e]; exact h)
end
section
variable {prog : Program} {w : World} {A : Around} {E : Value → Shared → Prop} {s : Shared} {env : Env} {h₀ : Heap} {x : Str} {body : List Stmt} {Q : Flow → Shared → Prop} {news : List (Addr × Obj)} {m : Str → Option Value} {l : Addr} {nn : Nat}
theorem iter_nil (hh : A.handled = none) (hl : (l, listOf #[] nn) ∈ news) (F : Fr h₀ env.locals s.heap m) (N : News h₀ env.locals s.heap news)
    (done : ∀ h tk, Fr h₀ env.locals h m → News h₀ env.locals h news → Q .next { s with heap := h, toks := tk }) :
    wpAny (model prog w) A (pyIter (.ref l)) (fun it s₂ => LoopAtV prog w A h₀ env x body Q E it s₂) E s := by
  refine kdl_iter (vs := []) (nn := nn) (fun _ m₁ n₁ => m₁ = m ∧ n₁ = news) hh hl F N ⟨rfl, rfl⟩ ?_ ?_
  · intro i v m₁ news₁ h tk own hv
    simp at hv
  · rintro m₁ news₁ h tk ⟨rfl, rfl⟩ F' N'
    exact done h tk F' N'
end
theorem op_eq_no {prog : Program} {w : World} {A : Around} {E : Value → Shared → Prop} {s : Shared} {Q : Value → Shared → Prop} {a b : Int} {t u : Tok} (hne : a ≠ b) (h : Q (.bool false) s) :
    wpAny (model prog w) A (compareOp .Eq (.int a t) (.int b u)) Q E s := eq_int (by rw [show (a == b) = false from beq_eq_false_iff_ne.mpr hne]; exact h)
theorem op_ne_yes {prog : Program} {w : World} {A : Around} {E : Value → Shared → Prop} {s : Shared} {Q : Value → Shared → Prop} {a b : Int} {t u : Tok} (hne : a ≠ b) (h : Q (.bool true) s) :
    wpAny (model prog w) A (compareOp .NotEq (.int a t) (.int b u)) Q E s := ne_int (by rw [show (a != b) = true from bne_iff_ne.mpr hne]; exact h)
end
section
set_option maxRecDepth 100000
section
variable {prog : Program} {w : World} {A : Around} {E : Value → Shared → Prop} {env : Env} {h₀ : Heap} {target : PySem.Expr} {body : List Stmt} {Q : Flow → Shared → Prop} {s : Shared}
/-- what a turn must leave -/
def TurnEnd (h₀ : Heap) (L : Addr) (s : Shared) (I : Addr) (o : Obj) (keep : Addr × Obj) (P : (Str → Option Value) → List (Addr × Obj) → Prop) (s₃ : Shared) : Prop :=
  ∃ h' tk' m' n', s₃ = { s with heap := h', toks := tk' } ∧ Fr h₀ L h' m' ∧ News h₀ L h' ((I, o) :: n') ∧ (∀ p ∈ n', p.1 ≠ I) ∧ keep ∈ n' ∧ P m' n'
def TurnPost (h₀ : Heap) (L : Addr) (s : Shared) (I : Addr) (o : Obj) (keep : Addr × Obj) (P : (Str → Option Value) → List (Addr × Obj) → Prop) (Q : Flow → Shared → Prop) (f : Flow) (s₃ : Shared) : Prop :=
  match f with
  | .ret v => Q (.ret v) s₃
  | .brk => Q .next s₃
  | _ => TurnEnd h₀ L s I o keep P s₃
theorem turns_rest {I : Addr} {c : String} {keep : Addr × Obj} {vs : List Value} (P : Nat → (Str → Option Value) → List (Addr × Obj) → Prop)
    (step : ∀ i v m₁ n₁ h tk o, vs[i]? = some v → P i m₁ n₁ → keep ∈ n₁ → (∀ p ∈ n₁, p.1 ≠ I) → o.cls = .type c → Fr h₀ env.locals h m₁ → News h₀ env.locals h ((I, o) :: n₁) →
      wpAny (model prog w) A (assign target env v) (fun _ s₂ => wpAny (model prog w) A (execs body env) (TurnPost h₀ env.locals s I o keep (P (i + 1)) Q) E s₂) E { s with heap := h, toks := tk })
    (done : ∀ h tk m' n', P vs.length m' n' → keep ∈ n' → Fr h₀ env.locals h m' → News h₀ env.locals h n' → Q .next { s with heap := h, toks := tk })
    {m : Str → Option Value} {news : List (Addr × Obj)} (hP : P 0 m news) (hk : keep ∈ news) (hI : ∀ p ∈ news, p.1 ≠ I) :
    ItemsRest prog w A E h₀ env target body Q s [(I, c)] [keep] (vs.map .val) m news := by
  have gen : ∀ (ws : List Value) (i : Nat), vs.drop i = ws → i ≤ vs.length → ∀ m news, P i m news → keep ∈ news → (∀ p ∈ news, p.1 ≠ I) →
      ItemsRest prog w A E h₀ env target body Q s [(I, c)] [keep] (ws.map .val) m news := by
    intro ws
    induction ws with
    | nil =>
      intro i hd hle m news hP hk _
      refine ItemsRest.zero (fun h tk F N => ?_)
      have : i = vs.length := by
        have := List.drop_eq_nil_iff.mp hd
        omega
      subst this
      exact done h tk m news hP hk F N
    | cons v ws ih =>
      intro i hd hle m news hP hk hI
      have hv : vs[i]? = some v := by
        have := congrArg List.head? hd
        simpa [List.head?_drop] using this
      have hlt : i < vs.length := (List.getElem?_eq_some_iff.mp hv).1
      have hd' : vs.drop (i + 1) = ws := by
        have := congrArg List.tail hd
        simpa [List.tail_drop] using this
      refine ItemsRest.val (fun h tk F => ?_)
      refine AllObj.cons (fun o ho => AllObj.nil (fun N => ?_))
      refine wpAny_mono (step i v m news h tk o hv hP hk hI ho F N) (fun _ s₂ h₂ => wpAny_mono h₂ (fun f s₃ h₃ => ?_) fun _ _ e => e) fun _ _ e => e
      have fin : TurnEnd h₀ env.locals s I o keep (P (i + 1)) s₃ →
          UnrEndW h₀ env.locals { s with heap := h, toks := tk } [(I, o)] (fun m' n' => SubL [keep] n' ∧ ItemsRest prog w A E h₀ env target body Q s [(I, c)] [keep] (ws.map .val) m' n') s₃ := by
        rintro ⟨h', tk', m', n', e, F', N', hI', hk', hP'⟩
        refine ⟨h', tk', m', n', e, F', N', fun p hp q hq => ?_, ⟨hk', trivial⟩, ih (i + 1) hd' hlt m' n' hP' hk' hI'⟩
        rw [List.mem_singleton.mp hq]
        exact hI' p hp
      cases f with
      | ret v => exact h₃
      | brk => exact h₃
      | next => exact fin h₃
      | cont => exact fin h₃
  exact gen vs 0 rfl (Nat.zero_le _) m news hP hk hI
theorem iter_listR {ax : Addr} {vs : List Value} {n : Nat} {m₀ : Str → Option Value} {news : List (Addr × Obj)} (P : Nat → (Str → Option Value) → List (Addr × Obj) → Prop)
    (hh : A.handled = none) (F : Fr h₀ env.locals s.heap m₀) (N : News h₀ env.locals s.heap news) (hm : (ax, listOf vs.toArray n) ∈ news) (hP : P 0 m₀ news)
    (step : ∀ I i v m₁ n₁ h tk o, vs[i]? = some v → P i m₁ n₁ → (ax, listOf vs.toArray n) ∈ n₁ → (∀ p ∈ n₁, p.1 ≠ I) → Fr h₀ env.locals h m₁ → News h₀ env.locals h ((I, o) :: n₁) →
      wpAny (model prog w) A (assign target env v) (fun _ s₂ => wpAny (model prog w) A (execs body env) (TurnPost h₀ env.locals s I o (ax, listOf vs.toArray n) (P (i + 1)) Q) E s₂) E { s with heap := h, toks := tk })
    (done : ∀ h tk m' n', P vs.length m' n' → (ax, listOf vs.toArray n) ∈ n' → Fr h₀ env.locals h m' → News h₀ env.locals h n' → Q .next { s with heap := h, toks := tk }) :
    wpAny (model prog w) A (pyIter (.ref ax)) (fun it s₂ => TurnsAt prog w A h₀ env target body Q E it s₂) E s :=
  iter_listTurns hh F N hm rfl rfl fun I hI => turns_rest P (fun i v m₁ n₁ h tk o a b c d _ f g => step I i v m₁ n₁ h tk o a b c d f g) done hP hm fun p hp => Nat.ne_of_lt (hI p hp)
theorem iter_tupR {ax : Addr} {vs : List Value} {n : Nat} {m₀ : Str → Option Value} {news : List (Addr × Obj)} (P : Nat → (Str → Option Value) → List (Addr × Obj) → Prop)
    (hh : A.handled = none) (F : Fr h₀ env.locals s.heap m₀) (N : News h₀ env.locals s.heap news) (hm : (ax, tupO vs n) ∈ news) (hP : P 0 m₀ news)
    (step : ∀ I i v m₁ n₁ h tk o, vs[i]? = some v → P i m₁ n₁ → (ax, tupO vs n) ∈ n₁ → (∀ p ∈ n₁, p.1 ≠ I) → Fr h₀ env.locals h m₁ → News h₀ env.locals h ((I, o) :: n₁) →
      wpAny (model prog w) A (assign target env v) (fun _ s₂ => wpAny (model prog w) A (execs body env) (TurnPost h₀ env.locals s I o (ax, tupO vs n) (P (i + 1)) Q) E s₂) E { s with heap := h, toks := tk })
    (done : ∀ h tk m' n', P vs.length m' n' → (ax, tupO vs n) ∈ n' → Fr h₀ env.locals h m' → News h₀ env.locals h n' → Q .next { s with heap := h, toks := tk }) :
    wpAny (model prog w) A (pyIter (.ref ax)) (fun it s₂ => TurnsAt prog w A h₀ env target body Q E it s₂) E s :=
  iter_tupTurns hh F N hm rfl rfl fun I hI => turns_rest P (fun i v m₁ n₁ h tk o a b c d _ f g => step I i v m₁ n₁ h tk o a b c d f g) done hP hm fun p hp => Nat.ne_of_lt (hI p hp)
/-- nothing to go through -/
theorem iter_listNil {ax : Addr} {n : Nat} {m₀ : Str → Option Value} {news : List (Addr × Obj)}
    (hh : A.handled = none) (F : Fr h₀ env.locals s.heap m₀) (N : News h₀ env.locals s.heap news) (hm : (ax, listOf #[] n) ∈ news)
    (done : ∀ h tk, Fr h₀ env.locals h m₀ → News h₀ env.locals h news → Q .next { s with heap := h, toks := tk }) :
    wpAny (model prog w) A (pyIter (.ref ax)) (fun it s₂ => TurnsAt prog w A h₀ env target body Q E it s₂) E s :=
  iter_listTurns (vs := []) hh F N hm rfl rfl fun I hI => ItemsRest.zero done
theorem enum_nil {elts : List PySem.Expr} {k : Nat} {pos : Pos} {ax : Addr} {n : Nat} {m₀ : Str → Option Value} {news : List (Addr × Obj)}
    (hh : A.handled = none) (F : Fr h₀ env.locals s.heap m₀) (N : News h₀ env.locals s.heap news) (hm : (ax, listOf #[] n) ∈ news)
    (done : ∀ h tk, Fr h₀ env.locals h m₀ → News h₀ env.locals h news → Q .next { s with heap := h, toks := tk }) :
    wpAny (model prog w) A (call (.type "enumerate") [.ref ax]) (fun xv s₁ => wpAny (model prog w) A (pyIter xv) (fun it s₂ => TurnsAt prog w A h₀ env (.Tuple elts k pos) body Q E it s₂) E s₁) E s :=
  ktu_enum (vs := []) (xs := []) hh F N hm rfl rfl rfl fun I hI => ItemsRest.zero done
end
section
variable {prog : Program} {w : World} {A : Around} {E : Value → Shared → Prop} {s : Shared} {h₀ : Heap} {L a b : Addr} {news : List (Addr × Obj)} {k k' : Nat} {Q : Value → Shared → Prop}
theorem ne_nils (N : News h₀ L s.heap news) (ha : (a, listOf #[] k) ∈ news) (hb : (b, listOf #[] k') ∈ news) (hu : A.units + 64 < cLine) (h : Q (.bool false) s) :
    wpAny (model prog w) A (compareOp .NotEq (.ref a) (.ref b)) Q E s :=
  ke_ne_ints (xs := []) (ys := []) (ns := []) (ms := []) ⟨_, (N _ ha).1, rfl, k, rfl⟩ ⟨_, (N _ hb).1, rfl, k', rfl⟩ .nil .nil hu h
end
end
section
set_option maxRecDepth 100000
/-- at D stands o now; all else as before -/
structure Put (D : Addr) (o : Obj) (n n' : List (Addr × Obj)) : Prop where
  eq : n' = (D, o) :: flt D n
structure TupSub (n n' : List (Addr × Obj)) : Prop where
  sub : ∀ x vs k, (x, tupO vs k) ∈ n → (x, tupO vs k) ∈ n'
namespace Put
variable {D : Addr} {o : Obj} {n n' news : List (Addr × Obj)}
theorem mem (p : Put D o n n') : (D, o) ∈ n' := p.eq ▸ .head _
theorem keep (p : Put D o n n') {x : Addr × Obj} (hx : x ∈ n) (hn : x.1 ≠ D) : x ∈ n' := p.eq ▸ .tail _ (mem_flt hx hn)
theorem grow (p : Put D o n n') (g : Grow news n) (hl : ∀ q ∈ news, q.1 < D) : Grow news n' :=
  ⟨fun q hq => p.keep (g.mem q hq) (Nat.ne_of_lt (hl q hq))⟩
end Put
theorem Grow.flt {news n : List (Addr × Obj)} {I : Addr} (g : Grow news n) (h : ∀ p ∈ news, p.1 ≠ I) : Grow news (Mine.flt I n) :=
  ⟨fun p hp => mem_flt (g.mem p hp) (h p hp)⟩
namespace TupSub
variable {n n' n'' : List (Addr × Obj)}
theorem trans (a : TupSub n n') (b : TupSub n' n'') : TupSub n n'' := ⟨fun x vs k h => b.sub _ _ _ (a.sub _ _ _ h)⟩
theorem grow (g : Grow n n') : TupSub n n' := ⟨fun _ _ _ h => g.mem _ h⟩
theorem tail {p : Addr × Obj} : TupSub n (p :: n) := ⟨fun _ _ _ h => .tail _ h⟩
theorem stk (t : TupSub n n') {v : Value} {h : Nat} (s : StkIn n v h) : StkIn n' v h := by
  cases s with
  | mk a b => exact .mk (t.sub _ _ _ a) b
theorem pair (t : TupSub n n') {v : Value} {q : Nat × Nat} (s : PairIn n v q) : PairIn n' v q := by
  cases s with
  | mk a b => exact .mk (t.sub _ _ _ a) (t.stk b)
theorem fsIn (t : TupSub n n') {v : Int × Value} {q : Nat × Nat} (s : FsIn n v q) : FsIn n' v q := by
  cases s with
  | mk b => exact .mk (t.stk b)
theorem pairs (t : TupSub n n') {vs : List Value} {qs : List (Nat × Nat)} (s : All2 (PairIn n) vs qs) : All2 (PairIn n') vs qs := s.mono fun _ _ => t.pair
theorem fss (t : TupSub n n') {vs : List (Int × Value)} {qs : List (Nat × Nat)} (s : All2 (FsIn n) vs qs) : All2 (FsIn n') vs qs := s.mono fun _ _ => t.fsIn
theorem flt {h₀ h : Heap} {L a : Addr} {o : Obj} (N : News h₀ L h n) (hm : (a, o) ∈ n) (hc : o.cls ≠ .type "tuple") : TupSub n (Mine.flt a n) :=
  ⟨fun _ _ _ q => mem_flt q fun e => news_apart N hm q (fun c => hc c) e.symm⟩
theorem put {h₀ h : Heap} {L a : Addr} {o o' : Obj} (N : News h₀ L h n) (hm : (a, o) ∈ n) (hc : o.cls ≠ .type "tuple") (p : Put a o' n n') : TupSub n n' := by
  obtain ⟨rfl⟩ := p
  exact (TupSub.flt N hm hc).trans .tail
end TupSub
theorem dict_noTup {prog : Program} {w : World} {o : Obj} {kvs : List (Int × Value)} (h : o.IsDictOf (PySem.intKind prog w) kvs) : o.cls ≠ .type "tuple" := by
  obtain ⟨es, ep, he, _⟩ := h
  rw [he.1]
  decide
theorem list_noTup {vs : Array Value} {c : Nat} : (listOf vs c).cls ≠ .type "tuple" := by
  show Value.type "list" ≠ Value.type "tuple"
  decide
theorem ints_push {us : List Value} {l : List Int} (x : Int) (t : Tok) (h : IntsAre us l) : IntsAre (us ++ [.int x t]) (l ++ [x]) := by
  induction h with
  | nil => exact .cons x t .nil
  | cons a b _ ih => exact .cons a b ih
section
variable {prog : Program} {w : World} {A : Around} {E : Value → Shared → Prop} {s : Shared} {h₀ : Heap} {L D : Addr} {m : Str → Option Value} {n : List (Addr × Obj)} {c : Nat}
theorem app_int {us : List Value} {W : List Nat} {p : Nat} {t : Tok} {Q : Value → Shared → Prop} (F : Fr h₀ L s.heap m) (N : News h₀ L s.heap n) (hm : (D, listOf us.toArray c) ∈ n) (hi : IntsAre us (W.map Int.ofNat)) (hsz : W.length ≤ 1000000)
    (h : ∀ h' n' us', Fr h₀ L h' m → News h₀ L h' n' → Put D (listOf (List.toArray us') (c + 1)) n n' → TupSub n n' → IntsAre us' ((W ++ [p]).map Int.ofNat) → Q .none { s with heap := h' }) : wpAny (model prog w) A (call (.builtin "list.append") [.ref D, .int (p : Int) t]) Q E s := by
  refine app_list F N hm (by rw [hi.length, List.length_map]; exact hsz) fun h' F' N' => ?_
  refine h h' _ (us ++ [Value.int (p : Int) t]) F' N' (Put.mk rfl) (TupSub.put (o' := listOf (us ++ [Value.int (p : Int) t]).toArray (c + 1)) N hm list_noTup (Put.mk rfl)) ?_
  rw [List.map_append]
  exact ints_push (p : Int) t hi
theorem pop_int {us : List Value} {W : List Nat} {w' : Nat} {Q : Value → Shared → Prop} (F : Fr h₀ L s.heap m) (N : News h₀ L s.heap n) (hm : (D, listOf us.toArray c) ∈ n) (hi : IntsAre us ((W ++ [w']).map Int.ofNat)) (hsz : (W ++ [w']).length ≤ 1000000)
    (h : ∀ h' t us' n', Fr h₀ L h' m → News h₀ L h' n' → Put D (listOf (List.toArray us') (c + 1)) n n' → TupSub n n' → IntsAre us' (W.map Int.ofNat) → Q (.int (w' : Int) t) { s with heap := h' }) : wpAny (model prog w) A (call (.builtin "list.pop") [.ref D]) Q E s :=
  pop_list F N hm hi (by rw [hi.length, List.length_map]; exact hsz) fun h' t us' F' N' hi' => h h' t us' _ F' N' ⟨rfl⟩ (TupSub.put (o' := listOf (List.toArray us') (c + 1)) N hm list_noTup ⟨rfl⟩) hi'
theorem set_new {o : Obj} {kvs : List (Int × Value)} {fs : List (Nat × Nat)} {p k : Nat} {t : Tok} {v : Value} {Q : Unit → Shared → Prop} (F : Fr h₀ L s.heap m) (N : News h₀ L s.heap n) (hm : (D, o) ∈ n) (hd : o.IsDictOf (PySem.intKind prog w) kvs) (hA : All2 (FsIn n) kvs fs) (hn : p ∉ fs.map (·.1)) (hv : StkIn n v k) (hsz : fs.length ≤ 1000000)
    (h : ∀ h' o' tk' n' kvs', Fr h₀ L h' m → News h₀ L h' n' → Put D o' n n' → TupSub n n' → o'.IsDictOf (PySem.intKind prog w) kvs' → All2 (FsIn n') kvs' (fs ++ [(p, k)]) → Q () { s with heap := h', toks := tk' }) : wpAny (model prog w) A (setItem (.ref D) (.int (p : Int) t) v) Q E s := by
  refine set_int F N hm hd (fs_none hA hn) (by rw [hA.length]; exact hsz) fun h' o' tk' F' N' hd' => ?_
  have T : TupSub n ((D, o') :: flt D n) := TupSub.put (o' := o') N hm (dict_noTup hd) ⟨rfl⟩
  exact h h' o' tk' _ _ F' N' ⟨rfl⟩ T hd' ((T.fss hA).append (.cons (.mk (T.stk hv)) .nil))
theorem lists_add0 {a b : Addr} {c' : Nat} {xs : List Value} {Q : Value → Shared → Prop} (F : Fr h₀ L s.heap m) (N : News h₀ L s.heap n) (h1 : (a, listOf xs.toArray c) ∈ n) (h2 : (b, listOf #[] c') ∈ n) (hsz : xs.length ≤ 16777216)
    (h : ∀ l h', Fr h₀ L h' m → News h₀ L h' ((l, listOf xs.toArray 0) :: n) → (∀ p ∈ n, p.1 < l) → Q (.ref l) { s with heap := h' }) : wpAny (model prog w) A (binaryOp .Add (.ref a) (.ref b)) Q E s := by
  refine lists_add (ys := []) F N h1 h2 (by simpa using hsz) fun l h' F' N' l1 => h l h' F' ?_ l1
  rw [List.append_nil] at N'
  exact N'
end
theorem Ins.succs_len (i : Ins) (p h : Nat) : (i.succs p h).length ≤ 2 := by
  unfold Ins.succs
  cases i.last <;> cases i.arg <;> simp
/-- what stands between two turns -/
structure SInv (prog : Program) (w : World) (code : List Ins) (news : List (Addr × Obj)) (u fd wt : Addr) (one : Nat → Prop) (k : Nat) (Ex : List (Nat × Nat) → Prop) (m : Str → Option Value) (n : List (Addr × Obj)) : Prop where
  mu : m (Str.ofString "unit") = some (.ref u)
  mf : m (Str.ofString "found") = some (.ref fd)
  mw : m (Str.ofString "waiting") = some (.ref wt)
  grow : Grow news n
  data : ∃ o kvs fs us W c, (fd, o) ∈ n ∧ o.IsDictOf (PySem.intKind prog w) kvs ∧ All2 (FsIn n) kvs fs ∧ (wt, listOf (List.toArray us) c) ∈ n ∧ IntsAre us (W.map Int.ofNat) ∧ SPure code fs W one k ∧ Ex fs
theorem map3 {m : Str → Option Value} {a b c : Str} {x y z : Value} (h1 : m a = some x) (h2 : m b = some y) (h3 : m c = some z) : ∃ r : Str → Option Value, m = fun v => if v = a then some x else if v = b then some y else if v = c then some z else r v := by
  refine ⟨m, ?_⟩
  funext v
  by_cases e1 : v = a
  · rw [if_pos e1, e1, h1]
  · rw [if_neg e1]
    by_cases e2 : v = b
    · rw [if_pos e2, e2, h2]
    · rw [if_neg e2]
      by_cases e3 : v = c
      · rw [if_pos e3, e3, h3]
      · rw [if_neg e3]
theorem map4 {m : Str → Option Value} {a b c d : Str} {x y z u : Value} (h1 : m a = some x) (h2 : m b = some y) (h3 : m c = some z) (h4 : m d = some u) : ∃ r : Str → Option Value, m = fun v => if v = a then some x else if v = b then some y else if v = c then some z else if v = d then some u else r v := by
  refine ⟨m, ?_⟩
  funext v
  by_cases e1 : v = a
  · rw [if_pos e1, e1, h1]
  · rw [if_neg e1]
    by_cases e2 : v = b
    · rw [if_pos e2, e2, h2]
    · rw [if_neg e2]
      by_cases e3 : v = c
      · rw [if_pos e3, e3, h3]
      · rw [if_neg e3]
        by_cases e4 : v = d
        · rw [if_pos e4, e4, h4]
        · rw [if_neg e4]
theorem lenle {α β : Type} {R : α → β → Prop} {xs : List α} {ys : List β} (h : All2 R xs ys) (hl : ys.length ≤ 2) : xs.length ≤ 16777216 := by
  rw [h.length]; omega
/-- within the turns over what comes later -/
structure LInv (prog : Program) (w : World) (code : List Ins) (news : List (Addr × Obj)) (u fd wt : Addr) (p h : Nat) (t : Tok) (vs : List Value) (sc : List (Nat × Nat)) (k j : Nat) (m : Str → Option Value) (n : List (Addr × Obj)) : Prop where
  inv : SInv prog w code news u fd wt (fun x => x = p) k (fun fs => (p, h) ∈ fs ∧ ∀ r ∈ sc.take j, r ∈ fs) m n
  mp : m (Str.ofString "pc") = some (.int (p : Int) t)
  all : All2 (PairIn n) vs sc
theorem take_next {α : Type} {l : List α} {j : Nat} {q : α} (h : l[j]? = some q) {P : α → Prop} (h1 : ∀ r ∈ l.take j, P r) (h2 : P q) : ∀ r ∈ l.take (j + 1), P r := by
  intro r hr
  rw [List.take_succ, h] at hr
  rcases List.mem_append.mp hr with hr | hr
  · exact h1 r hr
  · simp at hr
    exact hr ▸ h2
section
variable {prog : Program} {w : World} {A : Around} {E : Value → Shared → Prop} {env : Env} {h₀ : Heap} {target : PySem.Expr} {body : List Stmt} {Q : Flow → Shared → Prop} {s : Shared}
theorem iter_listC {ax : Addr} {vs : List Value} {n : Nat} {m₀ : Str → Option Value} {news : List (Addr × Obj)} (P : Nat → (Str → Option Value) → List (Addr × Obj) → Prop)
    (hh : A.handled = none) (F : Fr h₀ env.locals s.heap m₀) (N : News h₀ env.locals s.heap news) (hm : (ax, listOf vs.toArray n) ∈ news) (hP : P 0 m₀ news)
    (step : ∀ I i v m₁ n₁ h tk o, vs[i]? = some v → P i m₁ n₁ → (ax, listOf vs.toArray n) ∈ n₁ → (∀ p ∈ n₁, p.1 ≠ I) → o.cls ≠ .type "tuple" → Fr h₀ env.locals h m₁ → News h₀ env.locals h ((I, o) :: n₁) →
      wpAny (model prog w) A (assign target env v) (fun _ s₂ => wpAny (model prog w) A (execs body env) (TurnPost h₀ env.locals s I o (ax, listOf vs.toArray n) (P (i + 1)) Q) E s₂) E { s with heap := h, toks := tk })
    (done : ∀ h tk m' n', P vs.length m' n' → (ax, listOf vs.toArray n) ∈ n' → Fr h₀ env.locals h m' → News h₀ env.locals h n' → Q .next { s with heap := h, toks := tk }) :
    wpAny (model prog w) A (pyIter (.ref ax)) (fun it s₂ => TurnsAt prog w A h₀ env target body Q E it s₂) E s :=
  iter_listTurns hh F N hm rfl rfl fun I hI => turns_rest P (fun i v m₁ n₁ h tk o a b c d e f g => step I i v m₁ n₁ h tk o a b c d (by rw [e]; decide) f g) done hP hm fun p hp => Nat.ne_of_lt (hI p hp)
end
theorem range_len (n : Nat) : Builtin.Range.rangeSize 0 (n : Int) 1 = (n : Int) := by
  unfold Builtin.Range.rangeSize
  by_cases h : (0 : Int) < (n : Int)
  · rw [if_pos (by decide), if_pos h]; simp only [Int.ediv_one]; omega
  · rw [if_pos (by decide), if_neg h]; omega
theorem range_small (n : Nat) (h : n ≤ 1000000) : Builtin.Range.small 0 (n : Int) 1 = true := by
  simp only [Builtin.Range.small, range_len]
  simp [Builtin.Range.rangeFitsLong]
  omega
section
variable {prog : Program} {w : World} {A : Around} {E : Value → Shared → Prop} {s : Shared} {h₀ : Heap} {L D b : Addr} {m : Str → Option Value} {n : List (Addr × Obj)} {c c' : Nat}
theorem ext_nil {Q : Value → Shared → Prop} (F : Fr h₀ L s.heap m) (N : News h₀ L s.heap n) (hm : (D, listOf #[] c) ∈ n) (hb : (b, listOf #[] c') ∈ n) (hd : D ≠ b)
    (h : ∀ h' n', Fr h₀ L h' m → News h₀ L h' n' → Put D (listOf #[] c) n n' → Q .none { s with heap := h' }) : wpAny (model prog w) A (call (.builtin "list.extend") [.ref D, .ref b]) Q E s := by
  refine kxn_extend F (news_flt N hm) (.tail _ (mem_flt hb (Ne.symm hd))) ?_ (.head flt_ne) ?_ ?_ ?_ fun h' F' N' => h h' _ F' N' ⟨rfl⟩
  all_goals first | rfl | exact hd | (rw [sizeLine_eq]; simp) | simp
end
theorem lt_mem {l : List (Addr × Obj)} {a D : Addr} {o : Obj} (ha : ∀ p ∈ l, p.1 < D) (hb : (a, o) ∈ l) : a < D := ha _ hb
end
section
set_option maxRecDepth 100000
/-- a pair of a place and a height -/
inductive PinT (n : List (Addr × Obj)) : Addr → Nat × Nat → Prop
  | mk {x : Addr} {t t' : Tok} {k p h : Nat} : (x, tupO [.int (p : Int) t, .int (h : Int) t'] k) ∈ n → PinT n x (p, h)
inductive WIn (n : List (Addr × Obj)) : Value → Nat × Nat → Prop
  | mk {x : Addr} {q : Nat × Nat} : PinT n x q → WIn n (.ref x) q
abbrev keyOf (q : Nat × Nat) : List Int := [(q.1 : Int), (q.2 : Int)]
inductive KIn (n : List (Addr × Obj)) : List Int × Addr × Value → Nat × Nat → Prop
  | mk {x : Addr} {q : Nat × Nat} {v : Value} : PinT n x q → KIn n (keyOf q, x, v) q
theorem TupSub.pin {n n' : List (Addr × Obj)} (t : TupSub n n') {x : Addr} {q : Nat × Nat} (s : PinT n x q) : PinT n' x q := by
  cases s with
  | mk a => exact .mk (t.sub _ _ _ a)
theorem TupSub.ws {n n' : List (Addr × Obj)} (t : TupSub n n') {vs : List Value} {qs : List (Nat × Nat)} (s : All2 (WIn n) vs qs) : All2 (WIn n') vs qs :=
  s.mono fun _ _ r => by
    cases r with
    | mk a => exact .mk (t.pin a)
theorem TupSub.ks {n n' : List (Addr × Obj)} (t : TupSub n n') {xs : List (List Int × Addr × Value)} {qs : List (Nat × Nat)} (s : All2 (KIn n) xs qs) : All2 (KIn n') xs qs :=
  s.mono fun _ _ r => by
    cases r with
    | mk a => exact .mk (t.pin a)
structure HDict (prog : Program) (w : World) (o : Obj) (xs : List (List Int × Addr × Value)) : Prop where
  out : ∃ es ep, o.ExactDict ∧ o.data = .dict es ep ∧ es.toList = xs.map (entryOfKey (tupleKind (PySem.intKind prog w))) ∧ (xs.map (·.1)).Nodup
theorem HDict.cls {prog : Program} {w : World} {o : Obj} {xs : List (List Int × Addr × Value)} (h : HDict prog w o xs) : o.cls ≠ .type "tuple" := by
  obtain ⟨es, ep, he, _⟩ := h.out
  rw [he.1]
  decide
theorem HDict.clsL {prog : Program} {w : World} {o : Obj} {xs : List (List Int × Addr × Value)} (h : HDict prog w o xs) : o.cls ≠ .type "list" := by
  obtain ⟨es, ep, he, _⟩ := h.out
  rw [he.1]
  decide
section
variable {prog : Program} {w : World} {A : Around} {E : Value → Shared → Prop} {s : Shared} {h₀ : Heap} {L D a : Addr} {m : Str → Option Value} {n : List (Addr × Obj)} {c : Nat} {o : Obj} {xs : List (List Int × Addr × Value)} {fs : List (Nat × Nat)} {q : Nat × Nat}
theorem pin_key {h : Heap} (N : News h₀ L h n) (hp : PinT n a q) : (tupleKind (PySem.intKind prog w)).is h (keyOf q) a := by
  cases hp with
  | mk hm => exact ⟨_, _, _, (N _ hm).1, rfl, rfl, .cons (intKind_is _ _ _ _) (.cons (intKind_is _ _ _ _) .nil)⟩
theorem hdict_at {h : Heap} (N : News h₀ L h n) (hm : (D, o) ∈ n) (hd : HDict prog w o xs) (hA : All2 (KIn n) xs fs) : h.DictOfH (tupleKind (PySem.intKind prog w)) D xs := by
  obtain ⟨es, ep, he, hd, hl, hn⟩ := hd.out
  refine ⟨o, es, ep, (N _ hm).1, he, hd, hl, fun x hx => ?_, hn⟩
  obtain ⟨i, hi⟩ := List.getElem?_of_mem hx
  obtain ⟨q, _, r⟩ := hA.get' hi
  cases r with
  | mk p => exact pin_key N p
theorem key_inj {q r : Nat × Nat} (h : keyOf q = keyOf r) : q = r := by
  simp only [keyOf, List.cons.injEq, and_true] at h
  obtain ⟨h1, h2⟩ := h
  obtain ⟨a, b⟩ := q
  obtain ⟨c, d⟩ := r
  simp only at h1 h2
  rw [show a = c by omega, show b = d by omega]
theorem ks_none (hA : All2 (KIn n) xs fs) (hq : q ∉ fs) : atKey xs (keyOf q) = none := by
  have : xs.find? (fun x => decide (x.1 = keyOf q)) = none := by
    rw [List.find?_eq_none]
    intro x hx
    obtain ⟨i, hi⟩ := List.getElem?_of_mem hx
    obtain ⟨r, hr, k⟩ := hA.get' hi
    cases k with
    | mk p =>
      simp only [decide_eq_true_eq]
      intro e
      exact hq (key_inj e ▸ List.mem_of_getElem? hr)
  rw [atKey, this]
  rfl
theorem ks_some (hA : All2 (KIn n) xs fs) (hq : q ∈ fs) : (atKey xs (keyOf q)).isSome = true := by
  obtain ⟨i, hi⟩ := List.getElem?_of_mem hq
  obtain ⟨x, hx, k⟩ := hA.get hi
  cases k with
  | mk p =>
    unfold atKey
    rw [Option.isSome_map, List.find?_isSome]
    exact ⟨_, List.mem_of_getElem? hx, by simp⟩
theorem h_in {Q : Value → Shared → Prop} (N : News h₀ L s.heap n) (hp : PinT n a q) (hm : (D, o) ∈ n) (hd : HDict prog w o xs) (lo : (D == sysModules) = false) (hA : All2 (KIn n) xs fs) (hu : A.units + 64 < cLine)
    (h1 : ∀ tk, q ∈ fs → Q (.bool true) { s with toks := tk }) (h2 : ∀ tk, q ∉ fs → Q (.bool false) { s with toks := tk }) : wpAny (model prog w) A (compareOp .In (.ref a) (.ref D)) Q E s := by
  refine wpAny_in_heap (knd := tupleKind (PySem.intKind prog w)) (k := keyOf q) ?_ (pin_key N hp) lo (hdict_at N hm hd hA) ?_
  · show A.in1.units < cLine
    show A.units + 1 < cLine
    omega
  · by_cases e : q ∈ fs
    · rw [ks_some hA e]; exact h1 _ e
    · rw [ks_none hA e]; exact h2 _ e
theorem h_set {v : Value} {Q : Unit → Shared → Prop} (F : Fr h₀ L s.heap m) (N : News h₀ L s.heap n) (hp : PinT n a q) (hm : (D, o) ∈ n) (hd : HDict prog w o xs) (hA : All2 (KIn n) xs fs) (hq : q ∉ fs) (hsz : fs.length ≤ 1000000) (hu : A.units + 64 < cLine)
    (h : ∀ h' o' tk' n' xs', Fr h₀ L h' m → News h₀ L h' n' → Put D o' n n' → TupSub n n' → HDict prog w o' xs' → All2 (KIn n') xs' (fs ++ [q]) → Q () { s with heap := h', toks := tk' }) : wpAny (model prog w) A (setItem (.ref D) (.ref a) v) Q E s := by
  refine wpAny_setItem_heap (knd := tupleKind (PySem.intKind prog w)) (k := keyOf q) ?_ (pin_key N hp) (hdict_at N hm hd hA) (fun h' hm' hs => ?_) (by rw [sizeLine_eq, hA.length]; omega)
  · show A.in1.units < cLine
    show A.units + 1 < cLine
    omega
  · rw [storedH_new (ks_none hA hq)] at hm'
    obtain ⟨o', es, ep, ho', he, hdt, hl, _, hn⟩ := hm'
    have z := N _ hm
    have T : TupSub n ((D, o') :: flt D n) := TupSub.put (o' := o') N hm hd.cls ⟨rfl⟩
    refine h h' o' _ _ _ (F.change hs z.2.1 z.2.2) ?_ ⟨rfl⟩ T ⟨es, ep, he, hdt, hl, hn⟩ ((T.ks hA).append (.cons (.mk (T.pin hp)) .nil))
    have N2 := News.setIn (own := []) (news_flt N hm) (fun _ hp => by cases hp) flt_ne hs ho'
    exact N2
end
namespace All2
theorem unsnoc {α β : Type} {R : α → β → Prop} {as : List α} {bs : List β} {b : β} (h : All2 R as (bs ++ [b])) : ∃ as' a, as = as' ++ [a] ∧ All2 R as' bs ∧ R a b := by
  induction bs generalizing as with
  | nil =>
    cases h with
    | cons r t => cases t; exact ⟨[], _, rfl, .nil, r⟩
  | cons x xs ih =>
    cases h with
    | cons r t =>
      obtain ⟨as', a, rfl, h1, h2⟩ := ih t
      exact ⟨_ :: as', a, rfl, .cons r h1, h2⟩
end All2
section
variable {prog : Program} {w : World} {A : Around} {E : Value → Shared → Prop} {s : Shared} {h₀ : Heap} {L D b : Addr} {m : Str → Option Value} {n : List (Addr × Obj)} {c c' : Nat} {us ys : List Value} {W new : List (Nat × Nat)} {q : Nat × Nat}
theorem pop_w {Q : Value → Shared → Prop} (F : Fr h₀ L s.heap m) (N : News h₀ L s.heap n) (hm : (D, listOf us.toArray c) ∈ n) (hA : All2 (WIn n) us (W ++ [q])) (hsz : (W ++ [q]).length ≤ 1000000)
    (h : ∀ h' x us' n', Fr h₀ L h' m → News h₀ L h' n' → Put D (listOf (List.toArray us') (c + 1)) n n' → TupSub n n' → All2 (WIn n') us' W → PinT n' x q → Q (.ref x) { s with heap := h' }) : wpAny (model prog w) A (call (.builtin "list.pop") [.ref D]) Q E s := by
  have hl := hA.length
  obtain ⟨us', y, rfl, h1, h2⟩ := hA.unsnoc
  cases h2 with
  | @mk x _ hp =>
    refine kl_pop F (news_flt N hm) (by simpa using kpa_last (Value.ref x) us') (.head flt_ne) (by rw [sizeLine_eq]; simp only [List.length_append] at hl hsz ⊢; simpa using (by omega : us'.length + 1 ≤ 16777216)) fun h' F' N' => ?_
    have T : TupSub n ((D, listOf us'.toArray (c + 1)) :: flt D n) := TupSub.put (o' := listOf us'.toArray (c + 1)) N hm list_noTup ⟨rfl⟩
    exact h h' x us' _ F' N' ⟨rfl⟩ T (T.ws h1) (T.pin hp)
theorem ext_w {Q : Value → Shared → Prop} (F : Fr h₀ L s.heap m) (N : News h₀ L s.heap n) (hm : (D, listOf us.toArray c) ∈ n) (hA : All2 (WIn n) us W) (hb : (b, listOf ys.toArray c') ∈ n) (hB : All2 (WIn n) ys new) (hd : D ≠ b) (hsz : W.length + new.length ≤ 1000000)
    (h : ∀ h' us' n' cc, Fr h₀ L h' m → News h₀ L h' n' → Put D (listOf (List.toArray us') cc) n n' → TupSub n n' → All2 (WIn n') us' (W ++ new) → Q .none { s with heap := h' }) : wpAny (model prog w) A (call (.builtin "list.extend") [.ref D, .ref b]) Q E s := by
  have l1 := hA.length
  have l2 := hB.length
  have room1 : ¬(!us.toArray.isEmpty && Builtin.List.listTooLong (us.toArray.size + ys.toArray.size)) = true := by
    simp only [Bool.and_eq_true, not_and]
    intro _
    unfold Builtin.List.listTooLong
    rw [sizeLine_eq]
    simp only [List.size_toArray, decide_eq_true_eq]
    omega
  by_cases e : ys = []
  · subst e
    obtain rfl : new = [] := by cases new with
      | nil => rfl
      | cons _ _ => cases hB
    refine kxn_extend F (news_flt N hm) (.tail _ (mem_flt hb (Ne.symm hd))) rfl (.head flt_ne) room1 (by rw [sizeLine_eq]; simp; omega) (by rw [sizeLine_eq]; simp; omega) fun h' F' N' => ?_
    have T : TupSub n ((D, listOf us.toArray c) :: flt D n) := TupSub.put (o' := listOf us.toArray c) N hm list_noTup ⟨rfl⟩
    exact h h' us _ c F' N' ⟨rfl⟩ T (by rw [List.append_nil]; exact T.ws hA)
  · refine kl_extend F (news_flt N hm) (.tail _ (mem_flt hb (Ne.symm hd))) rfl (by simpa using e) (.head flt_ne) room1 (by rw [sizeLine_eq]; simp; omega) (by rw [sizeLine_eq]; simp; omega) fun h' F' N' => ?_
    have T : TupSub n ((D, listOf (us ++ ys).toArray (c + 1)) :: flt D n) := TupSub.put (o' := listOf (us ++ ys).toArray (c + 1)) N hm list_noTup ⟨rfl⟩
    exact h h' (us ++ ys) _ (c + 1) F' N' ⟨rfl⟩ T ((T.ws hA).append (T.ws hB))
end
end
section
set_option maxRecDepth 100000
def pairD (q : Nat × Nat) : PyData := .tuple [.int (q.1 : Int), .int (q.2 : Int)]
section
variable {prog : Program} {w : World} {A : Around} {E : Value → Shared → Prop} {s : Shared} {h₀ : Heap} {L D b : Addr} {m : Str → Option Value} {n : List (Addr × Obj)} {c c' : Nat} {us : List Value} {W : List (Nat × Nat)}
theorem w_reads {h : Heap} (N : News h₀ L h n) (hA : All2 (WIn n) us W) : ∃ as, ReadsAll h us (W.map pairD) as := by
  induction hA with
  | nil => exact ⟨_, .nil⟩
  | cons r _ ih =>
    obtain ⟨as, ih⟩ := ih
    cases r with
    | mk p =>
      cases p with
      | mk hm => exact ⟨_, .cons (reads_tuple_at (N _ hm).1 rfl rfl (readsAll_cons_val (.int _ _) (readsAll_cons_val (.int _ _) .nil))) ih⟩
theorem w_lay : ∀ W : List (Nat × Nat), PyData.canLayAll0 (W.map pairD) = true
  | [] => rfl
  | q :: W => by simp [pairD, PyData.canLayAll0, PyData.canLay0, w_lay W]
theorem w_depth : ∀ W : List (Nat × Nat), PyData.depthAll (W.map pairD) ≤ 1
  | [] => by simp [PyData.depthAll]
  | q :: W => by
    have := w_depth W
    simp [pairD, PyData.depthAll, PyData.depth]
    omega
theorem w_shaped (W : List (Nat × Nat)) : SeqAt.shaped (.list (W.map pairD)) = true := by
  have := w_depth W
  simp [SeqAt.shaped, PyData.canLay0, PyData.depth, w_lay]
  omega
theorem ne_nil {Q : Value → Shared → Prop} (N : News h₀ L s.heap n) (hm : (D, listOf us.toArray c) ∈ n) (hA : All2 (WIn n) us W) (hb : (b, listOf #[] c') ∈ n) (hu : A.units + 64 < cLine)
    (h1 : W ≠ [] → Q (.bool true) s) (h2 : W = [] → Q (.bool false) s) : wpAny (model prog w) A (compareOp .NotEq (.ref D) (.ref b)) Q E s := by
  obtain ⟨as, r⟩ := w_reads N hA
  refine ne_dataH (reads_list_at (N _ hm).1 rfl rfl (by simpa using r)) (reads_list_at (N _ hb).1 rfl rfl (xs := []) (by simpa using ReadsAll.nil)) (w_shaped W) (w_shaped []) hu ?_
  have e : PyData.eqv (.list (W.map pairD)) (.list []) = decide (W = []) := by
    cases W with
    | nil => simp [PyData.eqv, PyData.eqvAll]
    | cons q W => simp [PyData.eqv, PyData.eqvAll]
  rw [e]
  by_cases q : W = []
  · rw [decide_eq_true q]; exact h2 q
  · rw [decide_eq_false q]; exact h1 q
end
section
variable {prog : Program} {w : World} {A : Around} {E : Value → Shared → Prop} {s : Shared} {h₀ : Heap} {L D b : Addr} {m : Str → Option Value} {n : List (Addr × Obj)} {c c' : Nat} {us : List Value} {W : List (Nat × Nat)} {q : Nat × Nat}
theorem ne_nil1 {Q : Value → Shared → Prop} (N : News h₀ L s.heap n) (hm : (D, listOf us.toArray c) ∈ n) (hA : All2 (WIn n) us (W ++ [q])) (hb : (b, listOf #[] c') ∈ n) (hu : A.units + 64 < cLine)
    (h : Q (.bool true) s) : wpAny (model prog w) A (compareOp .NotEq (.ref D) (.ref b)) Q E s := ne_nil N hm hA hb hu (fun _ => h) fun e => by simp at e
theorem ne_nil0 {Q : Value → Shared → Prop} (N : News h₀ L s.heap n) (hm : (D, listOf us.toArray c) ∈ n) (hA : All2 (WIn n) us []) (hb : (b, listOf #[] c') ∈ n) (hu : A.units + 64 < cLine)
    (h : Q (.bool false) s) : wpAny (model prog w) A (compareOp .NotEq (.ref D) (.ref b)) Q E s := ne_nil N hm hA hb hu (fun e => absurd rfl e) fun _ => h
end
theorem hdict_nil {prog : Program} {w : World} {o : Obj} (h : o.IsDictOf (PySem.intKind prog w) []) : HDict prog w o [] := by
  obtain ⟨es, ep, he, hd, _, hp, _⟩ := h
  refine ⟨es, ep, he, hd, ?_, by simp⟩
  generalize es.toList = l at hp
  cases hp
  rfl
theorem PinT.cast {n : List (Addr × Obj)} {x : Addr} {p h : Int} {a b : Nat} {t t' : Tok} {k : Nat} (hm : (x, tupO [.int p t, .int h t'] k) ∈ n) (e1 : p = (a : Int)) (e2 : h = (b : Int)) : PinT n x (a, b) := by
  subst e1 e2
  exact .mk hm
structure TInv (prog : Program) (w : World) (code : List Ins) (news : List (Addr × Obj)) (C fd wt : Addr) (k : Nat) (m : Str → Option Value) (n : List (Addr × Obj)) : Prop where
  mc : m (Str.ofString "code") = some (.ref C)
  mf : m (Str.ofString "found") = some (.ref fd)
  mw : m (Str.ofString "waiting") = some (.ref wt)
  grow : Grow news n
  data : ∃ o xs fs us W c, (fd, o) ∈ n ∧ HDict prog w o xs ∧ All2 (KIn n) xs fs ∧ (wt, listOf (List.toArray us) c) ∈ n ∧ All2 (WIn n) us W ∧ HPure code fs W k
theorem TupSub.refl (n : List (Addr × Obj)) : TupSub n n := ⟨fun _ _ _ h => h⟩
end
section
set_option maxRecDepth 100000
set_option maxHeartbeats 2000000
/-- lists and tuples stay -/
structure SeqSub (n n' : List (Addr × Obj)) : Prop where
  sub : ∀ x c vs k, (x, ({ cls := c, data := .seq vs k } : Obj)) ∈ n → (x, ({ cls := c, data := .seq vs k } : Obj)) ∈ n'
theorem SeqSub.refl (n : List (Addr × Obj)) : SeqSub n n := ⟨fun _ _ _ _ h => h⟩
theorem SeqSub.trans {a b c : List (Addr × Obj)} (h : SeqSub a b) (k : SeqSub b c) : SeqSub a c := ⟨fun x d vs n q => k.sub _ _ _ _ (h.sub _ _ _ _ q)⟩
theorem SeqSub.grow {a b : List (Addr × Obj)} (g : Grow a b) : SeqSub a b := ⟨fun _ _ _ _ h => g.mem _ h⟩
theorem SeqSub.tup {a b : List (Addr × Obj)} (g : SeqSub a b) : TupSub a b := ⟨fun x vs k h => g.sub x _ _ _ h⟩
theorem SeqSub.ins {a b : List (Addr × Obj)} (g : SeqSub a b) {v : Value} {i : Ins} (h : InsIn a v i) : InsIn b v i := by
  cases h with
  | mk hm ha => exact .mk (g.sub _ _ _ _ hm) ha
theorem TupSub.ins {a b : List (Addr × Obj)} (g : TupSub a b) {v : Value} {i : Ins} (h : InsIn a v i) : InsIn b v i := by
  cases h with
  | mk hm ha => exact .mk (g.sub _ _ _ hm) ha
/-- what a row tells of a jump -/
inductive WOf : Ins → Value → Prop
  | none {i : Ins} : i.arg = none → WOf i .none
  | jmp {t : Nat} {u : Tok} : WOf (.jmp t) (.int 0 u)
  | jf {t : Nat} {u : Tok} : WOf (.jf t) (.int 0 u)
  | jfk {t : Nat} {u : Tok} : WOf (.jfk t) (.int (-1) u)
  | jtk {t : Nat} {u : Tok} : WOf (.jtk t) (.int (-1) u)
inductive RawI (n : List (Addr × Obj)) : Value → Ins → Prop
  | mk {x : Addr} {t : Tok} {wv : Value} {k : Nat} {i : Ins} : (x, tupO [.int i.op t, wv] k) ∈ n → WOf i wv → RawI n (.ref x) i
inductive RowIn (n : List (Addr × Obj)) : Value → Nat → Prop
  | mk {x : Addr} {items : List Value} {k r : Nat} : (x, listOf items.toArray k) ∈ n → (∀ far last, All2 (RawI n) items (rowOf r far last)) → RowIn n (.ref x) r
theorem SeqSub.row {a b : List (Addr × Obj)} (g : SeqSub a b) {v : Value} {r : Nat} (h : RowIn a v r) : RowIn b v r := by
  cases h with
  | mk hm ha => exact .mk (g.sub _ _ _ _ hm) fun far last => (ha far last).mono fun v i q => match q with
      | .mk h1 h2 => .mk (g.sub _ _ _ _ h1) h2
theorem SeqSub.rows {a b : List (Addr × Obj)} (g : SeqSub a b) {vs : List Value} {rs : List Nat} (h : All2 (RowIn a) vs rs) : All2 (RowIn b) vs rs := h.mono fun _ _ => g.row
theorem RowIn.len {n : List (Addr × Obj)} {x : Addr} {r : Nat} (h : RowIn n (.ref x) r) : ∃ items k, (x, listOf (List.toArray items) k) ∈ n ∧ items.length = rowLen r := by
  cases h with
  | mk hm ha => exact ⟨_, _, hm, (ha 0 0).length⟩
section
variable {prog : Program} {w : World} {A : Around} {E : Value → Shared → Prop} {s : Shared} {h₀ : Heap} {L D a : Addr} {m : Str → Option Value} {n : List (Addr × Obj)} {c : Nat} {us vs : List Value}
theorem list_item {α : Type} {R : Value → α → Prop} {l : List α} {value slice : PySem.Expr} {z : Int} {t : Tok} {Q : Value → Shared → Prop}
    (N : News h₀ L s.heap n) (hm : (D, listOf us.toArray c) ∈ n) (hA : All2 R us l) (h0 : 0 ≤ z) (h1 : z < l.length) (hfit : l.length ≤ 1000000)
    (h : ∀ v b, l[z.toNat]? = some b → R v b → Q v s)
    (hs : subscripted slice false (.ref D) (.int z t) = operate [.ref D, .int z t] (getItem (.ref D) (.int z t)) := by with_unfolding_all rfl) :
    wpAny (model prog w) A (subscriptTail value slice (.ref D) (.int z t)) Q E s := by
  have hl : s.heap.IsList D us.toArray := ⟨_, (N _ hm).1, rfl, c, rfl⟩
  have hlt : z.toNat < l.length := by omega
  obtain ⟨v, hv, r⟩ := hA.get (List.getElem?_eq_getElem hlt)
  exact tail_any hl.typeIs slot_list_getitem.lookup (wpAny_getItem_list (x := v) hl h0 (by omega) (by simpa using hv) (h v _ (List.getElem?_eq_getElem hlt) r)) hs
theorem ints_item {l : List Nat} {value slice : PySem.Expr} {z : Int} {t : Tok} {Q : Value → Shared → Prop}
    (N : News h₀ L s.heap n) (hm : (D, listOf us.toArray c) ∈ n) (hI : IntsAre us (l.map Int.ofNat)) (h0 : 0 ≤ z) (h1 : z < l.length) (hfit : l.length ≤ 1000000)
    (h : ∀ t, Q (.int (l.getD z.toNat 0 : Nat) t) s)
    (hs : subscripted slice false (.ref D) (.int z t) = operate [.ref D, .int z t] (getItem (.ref D) (.int z t)) := by with_unfolding_all rfl) :
    wpAny (model prog w) A (subscriptTail value slice (.ref D) (.int z t)) Q E s := by
  have hl : s.heap.IsList D us.toArray := ⟨_, (N _ hm).1, rfl, c, rfl⟩
  have hlen := hI.length
  rw [List.length_map] at hlen
  have hlt : z.toNat < us.length := by omega
  obtain ⟨u, e⟩ := hI.int_at z.toNat us[z.toNat] (List.getElem?_eq_getElem hlt)
  have hlt2 : z.toNat < l.length := by omega
  have e2 : (l.map Int.ofNat).getD z.toNat 0 = ((l.getD z.toNat 0 : Nat) : Int) := by
    simp [List.getD_eq_getElem?_getD, hlt2]
  refine tail_any hl.typeIs slot_list_getitem.lookup (wpAny_getItem_list (x := us[z.toNat]) hl h0 (by omega) (by simp [hlt]) ?_) hs
  rw [e, e2]
  exact h u
theorem list_len {k : Nat} {Q : Value → Shared → Prop} (N : News h₀ L s.heap n) (hm : (D, listOf us.toArray c) ∈ n) (hl : us.length = k) (hfit : k ≤ 1000000)
    (h : Q (.int (k : Int) (s.toks + 1)) { s with toks := s.toks + 1 + 1 }) : wpAny (model prog w) A (call (.builtin "len") [.ref D]) Q E s := by
  have hL : s.heap.IsList D us.toArray := ⟨_, (N _ hm).1, rfl, c, rfl⟩
  have e : us.toArray.size = k := by rw [List.size_toArray, hl]
  exact len_list hL (by rw [e]; omega) (by rw [e]; exact h)
theorem store_c {M : Model} {cn : Str} {cs : Scope} {ccd : Value} {cl : List (Str × Addr)} {a0 : Addr} {x : Str} {v : Value} {cc : Addr} {o : Obj} {v₀ : Option Value} {Q : Unit → Shared → Prop} (F : Fr h₀ L s.heap m) (N : News h₀ L s.heap n) (hc : cl.lookup x = some cc) (hm : (cc, o) ∈ n) (hd : o.data = .cell v₀)
    (h : ∀ h' o' n', Fr h₀ L h' m → News h₀ L h' n' → Put cc o' n n' → SeqSub n n' → o'.data = .cell (some v) → Q () { s with heap := h' })
    (hk : cs.kind = .function := by rfl) (hx : (envX cn cs L a0 ccd cl).kindOf x = some .cell := by rfl) : wpAny M A (storeName (envX cn cs L a0 ccd cl) x v) Q E s := by
  refine storeX_C F (news_flt N hm) hc (.head flt_ne) hd (fun h' o' F' N' hd' => h h' o' _ F' N' ⟨rfl⟩ ⟨fun y k vs q hy => ?_⟩ hd') hk hx
  refine .tail _ (mem_flt hy fun e => ?_)
  have h1 := (N _ hm).1
  have h2 := (N _ hy).1
  simp only at e
  rw [e, h1] at h2
  have h3 := Option.some.inj h2
  simp only at h3
  rw [h3] at hd
  cases hd
theorem list_upto {value : PySem.Expr} {slice : PySem.Expr} {z : Int} {tz : Tok} {Q : Value → Shared → Prop} (F : Fr h₀ L s.heap m) (N : News h₀ L s.heap n) (hm : (a, listOf us.toArray c) ∈ n) (h0 : 0 ≤ z) (hfit : us.length ≤ 1000000)
    (h : ∀ D h', Fr h₀ L h' m → News h₀ L h' ((D, listOf (us.take z.toNat).toArray 0) :: n) → (∀ p ∈ n, p.1 < D) → Q (.ref D) { s with heap := h' })
    (hs : subscripted slice false (.ref a) (.ref s.heap.objs.size) = operate [.ref s.heap.objs.size, .ref a] (getItem (.ref a) (.ref s.heap.objs.size))) (ht : ∀ r, letTemporaryGo value (.ref a) r = pure ()) :
    wpAny (model prog w) A (subscriptTail value slice (.ref a) (.ref s.heap.objs.size)) Q E { s with heap := s.heap.push { cls := .type "slice", data := .fields #[.none, .int z tz, .none] } } := by
  have hl : s.heap.IsList a us.toArray := ⟨_, (N _ hm).1, rfl, c, rfl⟩
  have e : slicePick us.toArray none (some z) none = (us.take z.toNat).toArray := by
    have e : sliceBounds none (some z) none us.toArray.size = (((0 : Nat) : Int), ((min z.toNat us.toArray.size : Nat) : Int), 1) := by
      simp only [sliceBounds, Option.getD_none, show (1 : Int) > 0 by decide, if_true, if_neg (show ¬ (z < 0) by omega)]
      congr 1
      congr 1
      omega
    rw [kmk_pick_nat _ e]
    show ((us.drop 0).take (min z.toNat us.toArray.size - 0)).toArray = _
    rw [List.drop_zero, Nat.sub_zero, List.size_toArray, kmk_take_min]
  refine kmk_slice F N hl .none (.int z tz) (fun D h' F' N' l1 => h D h' F' ?_ l1) hs ht (by rw [List.size_toArray, sizeLine_eq]; omega)
  rw [← e]; exact N'
theorem list_from {value : PySem.Expr} {slice : PySem.Expr} {z : Int} {tz : Tok} {Q : Value → Shared → Prop} (F : Fr h₀ L s.heap m) (N : News h₀ L s.heap n) (hm : (a, listOf us.toArray c) ∈ n) (h0 : 0 ≤ z) (hfit : us.length ≤ 1000000)
    (h : ∀ D h', Fr h₀ L h' m → News h₀ L h' ((D, listOf (us.drop z.toNat).toArray 0) :: n) → (∀ p ∈ n, p.1 < D) → Q (.ref D) { s with heap := h' })
    (hs : subscripted slice false (.ref a) (.ref s.heap.objs.size) = operate [.ref s.heap.objs.size, .ref a] (getItem (.ref a) (.ref s.heap.objs.size))) (ht : ∀ r, letTemporaryGo value (.ref a) r = pure ()) :
    wpAny (model prog w) A (subscriptTail value slice (.ref a) (.ref s.heap.objs.size)) Q E { s with heap := s.heap.push { cls := .type "slice", data := .fields #[.int z tz, .none, .none] } } := by
  have hl : s.heap.IsList a us.toArray := ⟨_, (N _ hm).1, rfl, c, rfl⟩
  have e : slicePick us.toArray (some z) none none = (us.drop z.toNat).toArray := by
    have e : sliceBounds (some z) none none us.toArray.size = (((min z.toNat us.toArray.size : Nat) : Int), ((us.toArray.size : Nat) : Int), 1) := by
      simp only [sliceBounds, Option.getD_none, show (1 : Int) > 0 by decide, if_true, if_neg (show ¬ (z < 0) by omega)]
      congr 1
      omega
    rw [kmk_pick_nat _ e]
    show ((us.drop (min z.toNat us.toArray.size)).take (us.toArray.size - min z.toNat us.toArray.size)).toArray = _
    rw [List.size_toArray, kmk_drop_min]
    congr 1
    rw [List.take_of_length_le]
    rw [List.length_drop]
    omega
  refine kmk_slice F N hl (.int z tz) .none (fun D h' F' N' l1 => h D h' F' ?_ l1) hs ht (by rw [List.size_toArray, sizeLine_eq]; omega)
  rw [← e]; exact N'
end
end
section
set_option maxRecDepth 100000
section
variable {prog : Program} {w : World} {A : Around} {E : Value → Shared → Prop} {env : Env} {h₀ : Heap} {target : PySem.Expr} {body : List Stmt} {Q : Flow → Shared → Prop} {s : Shared}
theorem iter_listD {ax : Addr} {vs : List Value} {n : Nat} {m₀ : Str → Option Value} {news : List (Addr × Obj)} (P : Nat → (Str → Option Value) → List (Addr × Obj) → Prop)
    (hh : A.handled = none) (F : Fr h₀ env.locals s.heap m₀) (N : News h₀ env.locals s.heap news) (hm : (ax, listOf vs.toArray n) ∈ news) (hP : P 0 m₀ news)
    (step : ∀ I i v m₁ n₁ h tk o, vs[i]? = some v → P i m₁ n₁ → (ax, listOf vs.toArray n) ∈ n₁ → (∀ p ∈ n₁, p.1 ≠ I) → o.cls = .type "list_iterator" → Fr h₀ env.locals h m₁ → News h₀ env.locals h ((I, o) :: n₁) →
      wpAny (model prog w) A (assign target env v) (fun _ s₂ => wpAny (model prog w) A (execs body env) (TurnPost h₀ env.locals s I o (ax, listOf vs.toArray n) (P (i + 1)) Q) E s₂) E { s with heap := h, toks := tk })
    (done : ∀ h tk m' n', P vs.length m' n' → (ax, listOf vs.toArray n) ∈ n' → Fr h₀ env.locals h m' → News h₀ env.locals h n' → Q .next { s with heap := h, toks := tk }) :
    wpAny (model prog w) A (pyIter (.ref ax)) (fun it s₂ => TurnsAt prog w A h₀ env target body Q E it s₂) E s :=
  iter_listTurns hh F N hm rfl rfl fun I hI => turns_rest P (fun i v m₁ n₁ h tk o a b c d e f g => step I i v m₁ n₁ h tk o a b c d e f g) done hP hm fun p hp => Nat.ne_of_lt (hI p hp)
end
/-- what holds of the ledger while the pieces are joined -/
structure PP (K news : List (Addr × Obj)) (cd : Addr) (ys : List Value) (rs : List Nat) (code : List Ins) (n : List (Addr × Obj)) : Prop where
  grow : Grow news n
  keep : ∀ p ∈ K, p ∈ n
  rows : All2 (RowIn n) ys rs
  code : ∃ cv cc, (cd, listOf (List.toArray cv) cc) ∈ n ∧ All2 (InsIn n) cv code
namespace PP
variable {K news n n' : List (Addr × Obj)} {cd : Addr} {ys : List Value} {rs : List Nat} {code : List Ins}
theorem up (p : PP K news cd ys rs code n) (g : Grow n n') : PP K news cd ys rs code n' :=
  ⟨p.grow.trans g, fun q hq => g.mem _ (p.keep q hq), (SeqSub.grow g).rows p.rows, let ⟨cv, cc, h1, h2⟩ := p.code; ⟨cv, cc, g.mem _ h1, h2.mono fun _ _ r => r.mono g.mem⟩⟩
theorem more {K' : List (Addr × Obj)} (p : PP K news cd ys rs code n) (h : ∀ q ∈ K', q ∈ n) : PP (K' ++ K) news cd ys rs code n :=
  ⟨p.grow, fun q hq => (List.mem_append.mp hq).elim (h q) (p.keep q), p.rows, p.code⟩
theorem less {K' : List (Addr × Obj)} (p : PP (K' ++ K) news cd ys rs code n) : PP K news cd ys rs code n :=
  ⟨p.grow, fun q hq => p.keep q (List.mem_append_right _ hq), p.rows, p.code⟩
/-- a list's rows, where one address changes that is none of theirs -/
theorem rows_but {x : Addr} (h1 : ∀ p ∈ n, p.1 ≠ x → p ∈ n') (ht : ∀ y vs k, (y, tupO vs k) ∈ n → y ≠ x) (hr : All2 (RowIn n) ys rs) (hy : ∀ v ∈ ys, v ≠ .ref x) : All2 (RowIn n') ys rs := by
  induction hr with
  | nil => exact .nil
  | @cons a b as bs r _ ih =>
    refine .cons ?_ (ih fun v hv => hy v (.tail _ hv))
    cases r with
    | mk hm ha =>
      refine .mk (h1 _ hm fun e => hy _ (.head _) (by simp only at e; rw [e])) fun far last => (ha far last).mono fun v i q => match q with
        | .mk q1 q2 => .mk (h1 _ q1 (ht _ _ _ q1)) q2
theorem ins_but {x : Addr} (h1 : ∀ p ∈ n, p.1 ≠ x → p ∈ n') (ht : ∀ y vs k, (y, tupO vs k) ∈ n → y ≠ x) {v : Value} {i : Ins} (h : InsIn n v i) : InsIn n' v i := by
  cases h with
  | mk hm ha => exact .mk (h1 _ hm (ht _ _ _ hm)) ha
theorem push {h₀ h : Heap} {L : Addr} {cv : List Value} {cc c2 : Nat} {v : Value} {i : Ins} (p : PP K news cd ys rs code n) (N : News h₀ L h n) (hm : (cd, listOf cv.toArray cc) ∈ n) (hc : All2 (InsIn n) cv code) (hi : InsIn n v i)
    (hK : ∀ q ∈ K, q.1 ≠ cd) (hn : ∀ q ∈ news, q.1 ≠ cd) (hy : ∀ v ∈ ys, v ≠ .ref cd) : PP K news cd ys rs (code ++ [i]) ((cd, listOf (cv ++ [v]).toArray c2) :: flt cd n) := by
  have h1 : ∀ q ∈ n, q.1 ≠ cd → q ∈ (cd, listOf (cv ++ [v]).toArray c2) :: flt cd n := fun q hq hne => .tail _ (mem_flt hq hne)
  have ht : ∀ y vs k, (y, tupO vs k) ∈ n → y ≠ cd := fun y vs k hy e => by
    have a := (N _ hy).1
    have b := (N _ hm).1
    simp only at a b
    rw [e, b] at a
    exact absurd (congrArg Obj.cls (Option.some.inj a)) (by simp)
  exact ⟨⟨fun q hq => h1 q (p.grow.mem q hq) (hn q hq)⟩, fun q hq => h1 q (p.keep q hq) (hK q hq), rows_but h1 ht p.rows hy, _, _, .head _, (hc.mono fun _ _ r => ins_but h1 ht r).append (.cons (ins_but h1 ht hi) .nil)⟩
theorem drop {h₀ h : Heap} {L I : Addr} {o : Obj} (p : PP K news cd ys rs code n) (N : News h₀ L h n) (hm : (I, o) ∈ n) (hc : o.cls ≠ .type "tuple") (hl : o.cls ≠ .type "list") (hK : ∀ q ∈ K, q.1 ≠ I) (hn : ∀ q ∈ news, q.1 ≠ I) : PP K news cd ys rs code (flt I n) := by
  have h1 : ∀ q ∈ n, q.1 ≠ I → q ∈ flt I n := fun q hq hne => mem_flt hq hne
  have fn : ∀ y o', (y, o') ∈ n → y = I → o' = o := fun y o' hy e => by
    have a := (N _ hy).1
    have b := (N _ hm).1
    simp only at a b
    rw [e, b] at a
    exact (Option.some.inj a).symm
  have ht : ∀ y vs k, (y, tupO vs k) ∈ n → y ≠ I := fun y vs k hy e => hc (fn _ _ hy e ▸ rfl)
  have hl' : ∀ y vs k, (y, listOf vs k) ∈ n → y ≠ I := fun y vs k hy e => hl (fn _ _ hy e ▸ rfl)
  refine ⟨⟨fun q hq => h1 q (p.grow.mem q hq) (hn q hq)⟩, fun q hq => h1 q (p.keep q hq) (hK q hq), ?_, ?_⟩
  · have hy : ∀ v ∈ ys, v ≠ .ref I := fun v hv e => by
      obtain ⟨i, hi⟩ := List.getElem?_of_mem hv
      obtain ⟨r, _, q⟩ := p.rows.get' hi
      subst e
      cases q with
      | mk q1 _ => exact hl' _ _ _ q1 rfl
    exact rows_but h1 ht p.rows hy
  · obtain ⟨cv, cc, c1, c2⟩ := p.code
    exact ⟨cv, cc, h1 _ c1 (hl' _ _ _ c1), c2.mono fun _ _ r => ins_but h1 ht r⟩
end PP
end
section
set_option maxRecDepth 100000
section
variable {prog : Program} {w : World} {A : Around} {E : Value → Shared → Prop} {s : Shared} {Q : Value → Shared → Prop} {t u : Tok}
theorem fdiv6 {k : Nat} (h : Q (.int ((k / 6 : Nat) : Int) s.toks) { s with toks := s.toks + 1 }) : wpAny (model prog w) A (binaryOp .FloorDiv (.int (k : Int) t) (.int 6 u)) Q E s := by
  refine floordiv_int (by decide) ?_ (Or.inl (PyProof.noPylong_of_log2 (by decide +kernel)))
  have e : (k : Int).fdiv 6 = ((k / 6 : Nat) : Int) := by
    rw [Int.fdiv_eq_ediv_of_nonneg _ (by decide)]; omega
  rw [e]; exact h
theorem fmodN {k e : Nat} {d : Int} (hd : d = (e : Int)) (he : 0 < e) (h : ∀ q : Nat, q = k % e → q < e → Q (.int (q : Int) s.toks) { s with toks := s.toks + 1 }) : wpAny (model prog w) A (binaryOp .Mod (.int (k : Int) t) (.int d u)) Q E s := by
  subst hd
  refine mod_int (by omega) ?_
  have e' : (k : Int).fmod (e : Int) = ((k % e : Nat) : Int) := by
    rw [Int.fmod_eq_emod_of_nonneg _ (by omega)]; simp
  rw [e']; exact h _ rfl (Nat.mod_lt _ he)
end
theorem rowOf_jumps {r far last : Nat} {i : Ins} (h : i ∈ rowOf r far last) : (∀ t, i = .jmp t → t = far) ∧ (∀ t, i = .jf t → t = far) ∧ (∀ t, i = .jfk t → t = last) ∧ (∀ t, i = .jtk t → t = last) := by
  unfold rowOf at h
  split at h <;> simp only [List.mem_cons, List.not_mem_nil, or_false] at h <;> (first | (rcases h with rfl | rfl | rfl | rfl | rfl) | (rcases h with rfl | rfl | rfl | rfl) | (rcases h with rfl | rfl | rfl) | subst h) <;> simp
theorem start_pos (cs : List Nat) (i : Nat) (h : i < cs.length) : 0 < start cs (i + 1) := by
  unfold start
  rw [List.take_succ, List.getElem?_eq_getElem h, List.map_append, List.sum_append]
  have := rowLen_pos (cs[i] % 6)
  simp only [Option.toList_some, List.map_cons, List.map_nil, List.sum_cons, List.sum_nil]
  omega
theorem starts_at {cs : List Nat} {z : Int} {k n : Nat} (hz : z = (k : Int)) (hk : k < n) : ((List.range n).map (start cs)).getD z.toNat 0 = start cs k := by
  subst hz
  rw [Int.toNat_natCast, List.getD_eq_getElem?_getD]
  simp [hk]
theorem piece_len (cs : List Nat) (i : Nat) : (piece cs i).length = rowLen (cs.getD i 0 % 6) := rowOf_len _ _ _
theorem flat_len (cs : List Nat) : ∀ i, ((List.range i).map (piece cs)).flatten.length ≤ 5 * i
  | 0 => by simp
  | i + 1 => by
    have h1 := flat_len cs i
    have h2 := rowLen_le (cs.getD i 0 % 6)
    rw [List.range_succ, List.map_append, List.flatten_append, List.length_append]
    simp only [List.map_cons, List.map_nil, List.flatten_cons, List.flatten_nil, List.append_nil, piece_len]
    omega
theorem PP.turn {K news n : List (Addr × Obj)} {cd I2 T x : Addr} {o2 : Obj} {ys cv items : List Value} {rs : List Nat} {code : List Ins} {cc kk c2 kx : Nat} {ins : Ins} {ty : Tok} {av : Value} {h₀ h9 h' : Heap} {L : Addr}
    (p : PP K news cd ys rs code n) (N9 : News h₀ L h9 ((T, tupO [.int ins.op ty, av] kk) :: (I2, o2) :: n)) (hcv : (cd, listOf cv.toArray cc) ∈ n) (hcvA : All2 (InsIn n) cv code) (hav : ArgV ins.arg av)
    (hK : ∀ q ∈ K, q.1 ≠ cd) (hn : ∀ q ∈ news, q.1 ≠ cd) (hy : ∀ v ∈ ys, v ≠ .ref cd) (hI2 : ∀ q ∈ n, q.1 ≠ I2) (ho2 : o2.cls = .type "list_iterator") (hx : (x, listOf items.toArray kx) ∈ n) (hxc : x ≠ cd)
    (N' : News h₀ L h' ((cd, listOf (cv ++ [Value.ref T]).toArray c2) :: flt cd ((T, tupO [.int ins.op ty, av] kk) :: (I2, o2) :: n))) :
    ∃ n', News h₀ L h' ((I2, o2) :: n') ∧ (∀ q ∈ n', q.1 ≠ I2) ∧ (x, listOf items.toArray kx) ∈ n' ∧ PP K news cd ys rs (code ++ [ins]) n' := by
  have g : Grow n ((T, tupO [.int ins.op ty, av] kk) :: (I2, o2) :: n) := (Grow.refl n).tail.tail
  have p2 := (p.up g).push (v := .ref T) (i := ins) (c2 := c2) N9 (.tail _ (.tail _ hcv)) (hcvA.mono fun _ _ r => r.mono g.mem) (.mk (.head _) hav) hK hn hy
  have hIc : I2 ≠ cd := fun e => hI2 _ hcv e.symm
  have hm : (I2, o2) ∈ ((cd, listOf (cv ++ [Value.ref T]).toArray c2) :: flt cd ((T, tupO [.int ins.op ty, av] kk) :: (I2, o2) :: n)) := .tail _ (mem_flt (.tail _ (.head _)) hIc)
  have p3 := p2.drop N' hm (by rw [ho2]; simp) (by rw [ho2]; simp) (fun q hq => hI2 q (p.keep q hq)) (fun q hq => hI2 q (p.grow.mem q hq))
  exact ⟨_, news_flt N' hm, flt_ne, mem_flt (.tail _ (mem_flt (.tail _ (.tail _ hx)) hxc)) (hI2 _ hx), p3⟩
end
section
set_option maxRecDepth 100000
set_option linter.unusedSimpArgs false
/-- heights in a row -/
def rowH (r : Nat) : List Nat :=
  match r with
  | 0 => [0]
  | 1 => [0, 1, 2, 1]
  | 2 => [0, 1, 2, 2, 1]
  | 3 => [0, 1, 1]
  | 4 => [0, 1, 0, 1]
  | _ => [0, 1, 0, 1, 1]
theorem rowH_len (r : Nat) : (rowH r).length = rowLen r := by
  have hr : r = 0 ∨ r = 1 ∨ r = 2 ∨ r = 3 ∨ r = 4 ∨ 5 ≤ r := by omega
  rcases hr with rfl | rfl | rfl | rfl | rfl | h
  · rfl
  · rfl
  · rfl
  · rfl
  · rfl
  · obtain ⟨k, rfl⟩ : ∃ k, r = k + 5 := ⟨r - 5, by omega⟩
    rfl
theorem rowH_zero (r : Nat) : (rowH r)[0]? = some 0 := by
  unfold rowH
  split <;> rfl
theorem row_keep {r far last j : Nat} {i : Ins} (hi : (rowOf r far last)[j]? = some i) : (∀ t, i = .jfk t ∨ i = .jtk t → j + 1 < rowLen r) ∧ i ≠ .ret := by
  have hr : r = 0 ∨ r = 1 ∨ r = 2 ∨ r = 3 ∨ r = 4 ∨ 5 ≤ r := by omega
  have key : ∀ r' : Nat, rowOf r far last = rowOf r' far last → rowLen r = rowLen r' → r' ≤ 5 → (∀ t, i = .jfk t ∨ i = .jtk t → j + 1 < rowLen r) ∧ i ≠ .ret := by
    intro r' e1 e2 hle
    rw [e1] at hi
    rw [e2]
    have hj : j < 5 := by
      have h1 := (List.getElem?_eq_some_iff.mp hi).1
      rw [rowOf_len] at h1
      have := rowLen_le r'
      omega
    have h6 : r' = 0 ∨ r' = 1 ∨ r' = 2 ∨ r' = 3 ∨ r' = 4 ∨ r' = 5 := by omega
    have h5 : j = 0 ∨ j = 1 ∨ j = 2 ∨ j = 3 ∨ j = 4 := by omega
    rcases h6 with rfl | rfl | rfl | rfl | rfl | rfl <;> rcases h5 with rfl | rfl | rfl | rfl | rfl <;> cases hi <;> exact ⟨fun t h => by first | (rcases h with h | h <;> cases h <;> decide) | (rcases h with h | h <;> cases h), by intro h; cases h⟩
  rcases hr with rfl | rfl | rfl | rfl | rfl | h
  · exact key 0 rfl rfl (by omega)
  · exact key 1 rfl rfl (by omega)
  · exact key 2 rfl rfl (by omega)
  · exact key 3 rfl rfl (by omega)
  · exact key 4 rfl rfl (by omega)
  · obtain ⟨k, rfl⟩ : ∃ k, r = k + 5 := ⟨r - 5, by omega⟩
    exact key 5 rfl rfl (by omega)
/-- one row: where a step from place j of height (rowH r)[j] leads, the row standing at base; far is a start, last the row's own last place -/
theorem row_step {r far base j : Nat} {i : Ins} (hi : (rowOf r far (base + rowLen r - 1))[j]? = some i) :
    ∃ h, (rowH r)[j]? = some h ∧ i.taken ≤ h ∧ ∀ q ∈ i.succs (base + j) h, (∃ j', q.1 = base + j' ∧ (rowH r)[j']? = some q.2) ∨ (q.1 = base + rowLen r ∧ q.2 = 0) ∨ (q.1 = far ∧ q.2 = 0) := by
  have hr : r = 0 ∨ r = 1 ∨ r = 2 ∨ r = 3 ∨ r = 4 ∨ 5 ≤ r := by omega
  have key : ∀ (r' : Nat), (rowOf r far (base + rowLen r - 1)) = rowOf r' far (base + rowLen r' - 1) → rowH r = rowH r' → rowLen r = rowLen r' → r' ≤ 5 → ∃ h, (rowH r)[j]? = some h ∧ i.taken ≤ h ∧ ∀ q ∈ i.succs (base + j) h, (∃ j', q.1 = base + j' ∧ (rowH r)[j']? = some q.2) ∨ (q.1 = base + rowLen r ∧ q.2 = 0) ∨ (q.1 = far ∧ q.2 = 0) := by
    intro r' e1 e2 e3 hle
    rw [e1] at hi
    rw [e2, e3]
    have hj : j < 5 := by
      have h1 := (List.getElem?_eq_some_iff.mp hi).1
      rw [rowOf_len] at h1
      have := rowLen_le r'
      omega
    clear hr e1 e2 e3
    match r', hle, j, hj with
    | 0, _, 0, _ => cases hi; exact ⟨0, rfl, by simp [Ins.taken], fun q hq => by simp [Ins.succs, Ins.last, Ins.arg, Ins.keep, Ins.taken, Ins.put] at hq; subst hq; exact .inr (.inr ⟨rfl, rfl⟩)⟩
    | 1, _, 0, _ => cases hi; exact ⟨0, rfl, by simp [Ins.taken], fun q hq => by simp [Ins.succs, Ins.last, Ins.arg, Ins.keep, Ins.taken, Ins.put] at hq; subst hq; exact .inl ⟨1, rfl, rfl⟩⟩
    | 1, _, 1, _ => cases hi; exact ⟨1, rfl, by simp [Ins.taken], fun q hq => by simp [Ins.succs, Ins.last, Ins.arg, Ins.keep, Ins.taken, Ins.put] at hq; subst hq; exact .inl ⟨2, rfl, rfl⟩⟩
    | 1, _, 2, _ => cases hi; exact ⟨2, rfl, by simp [Ins.taken], fun q hq => by simp [Ins.succs, Ins.last, Ins.arg, Ins.keep, Ins.taken, Ins.put] at hq; subst hq; exact .inl ⟨3, rfl, rfl⟩⟩
    | 1, _, 3, _ => cases hi; exact ⟨1, rfl, by simp [Ins.taken], fun q hq => by simp [Ins.succs, Ins.last, Ins.arg, Ins.keep, Ins.taken, Ins.put] at hq; subst hq; exact .inr (.inl ⟨rfl, rfl⟩)⟩
    | 2, _, 0, _ => cases hi; exact ⟨0, rfl, by simp [Ins.taken], fun q hq => by simp [Ins.succs, Ins.last, Ins.arg, Ins.keep, Ins.taken, Ins.put] at hq; subst hq; exact .inl ⟨1, rfl, rfl⟩⟩
    | 2, _, 1, _ => cases hi; exact ⟨1, rfl, by simp [Ins.taken], fun q hq => by simp [Ins.succs, Ins.last, Ins.arg, Ins.keep, Ins.taken, Ins.put] at hq; subst hq; exact .inl ⟨2, rfl, rfl⟩⟩
    | 2, _, 2, _ => cases hi; exact ⟨2, rfl, by simp [Ins.taken], fun q hq => by simp [Ins.succs, Ins.last, Ins.arg, Ins.keep, Ins.taken, Ins.put] at hq; subst hq; exact .inl ⟨3, rfl, rfl⟩⟩
    | 2, _, 3, _ => cases hi; exact ⟨2, rfl, by simp [Ins.taken], fun q hq => by simp [Ins.succs, Ins.last, Ins.arg, Ins.keep, Ins.taken, Ins.put] at hq; subst hq; exact .inl ⟨4, rfl, rfl⟩⟩
    | 2, _, 4, _ => cases hi; exact ⟨1, rfl, by simp [Ins.taken], fun q hq => by simp [Ins.succs, Ins.last, Ins.arg, Ins.keep, Ins.taken, Ins.put] at hq; subst hq; exact .inr (.inl ⟨rfl, rfl⟩)⟩
    | 3, _, 0, _ => cases hi; exact ⟨0, rfl, by simp [Ins.taken], fun q hq => by simp [Ins.succs, Ins.last, Ins.arg, Ins.keep, Ins.taken, Ins.put] at hq; subst hq; exact .inl ⟨1, rfl, rfl⟩⟩
    | 3, _, 1, _ => cases hi; exact ⟨1, rfl, by simp [Ins.taken], fun q hq => by simp [Ins.succs, Ins.last, Ins.arg, Ins.keep, Ins.taken, Ins.put] at hq; subst hq; exact .inl ⟨2, rfl, rfl⟩⟩
    | 3, _, 2, _ => cases hi; exact ⟨1, rfl, by simp [Ins.taken], fun q hq => by
        simp [Ins.succs, Ins.last, Ins.arg, Ins.keep, Ins.taken, Ins.put] at hq
        rcases hq with rfl | rfl
        · exact .inr (.inl ⟨rfl, rfl⟩)
        · exact .inr (.inr ⟨rfl, rfl⟩)⟩
    | 4, _, 0, _ => cases hi; exact ⟨0, rfl, by simp [Ins.taken], fun q hq => by simp [Ins.succs, Ins.last, Ins.arg, Ins.keep, Ins.taken, Ins.put] at hq; subst hq; exact .inl ⟨1, rfl, rfl⟩⟩
    | 4, _, 1, _ => cases hi; exact ⟨1, rfl, by simp [Ins.taken], fun q hq => by
        simp [Ins.succs, Ins.last, Ins.arg, Ins.keep, Ins.taken, Ins.put] at hq
        rcases hq with rfl | rfl
        · exact .inl ⟨2, rfl, rfl⟩
        · exact .inl ⟨3, by show base + 4 - 1 = base + 3; omega, rfl⟩⟩
    | 4, _, 2, _ => cases hi; exact ⟨0, rfl, by simp [Ins.taken], fun q hq => by simp [Ins.succs, Ins.last, Ins.arg, Ins.keep, Ins.taken, Ins.put] at hq; subst hq; exact .inl ⟨3, rfl, rfl⟩⟩
    | 4, _, 3, _ => cases hi; exact ⟨1, rfl, by simp [Ins.taken], fun q hq => by simp [Ins.succs, Ins.last, Ins.arg, Ins.keep, Ins.taken, Ins.put] at hq; subst hq; exact .inr (.inl ⟨rfl, rfl⟩)⟩
    | 5, _, 0, _ => cases hi; exact ⟨0, rfl, by simp [Ins.taken], fun q hq => by simp [Ins.succs, Ins.last, Ins.arg, Ins.keep, Ins.taken, Ins.put] at hq; subst hq; exact .inl ⟨1, rfl, rfl⟩⟩
    | 5, _, 1, _ => cases hi; exact ⟨1, rfl, by simp [Ins.taken], fun q hq => by
        simp [Ins.succs, Ins.last, Ins.arg, Ins.keep, Ins.taken, Ins.put] at hq
        rcases hq with rfl | rfl
        · exact .inl ⟨2, rfl, rfl⟩
        · exact .inl ⟨4, by show base + 5 - 1 = base + 4; omega, rfl⟩⟩
    | 5, _, 2, _ => cases hi; exact ⟨0, rfl, by simp [Ins.taken], fun q hq => by simp [Ins.succs, Ins.last, Ins.arg, Ins.keep, Ins.taken, Ins.put] at hq; subst hq; exact .inl ⟨3, rfl, rfl⟩⟩
    | 5, _, 3, _ => cases hi; exact ⟨1, rfl, by simp [Ins.taken], fun q hq => by simp [Ins.succs, Ins.last, Ins.arg, Ins.keep, Ins.taken, Ins.put] at hq; subst hq; exact .inl ⟨4, rfl, rfl⟩⟩
    | 5, _, 4, _ => cases hi; exact ⟨1, rfl, by simp [Ins.taken], fun q hq => by simp [Ins.succs, Ins.last, Ins.arg, Ins.keep, Ins.taken, Ins.put] at hq; subst hq; exact .inr (.inl ⟨rfl, rfl⟩)⟩
    | 0, _, (k + 1), _ => cases k <;> cases hi
    | 1, _, 4, _ => cases hi
    | 3, _, 3, _ => cases hi
    | 3, _, 4, _ => cases hi
    | 4, _, 4, _ => cases hi
  rcases hr with rfl | rfl | rfl | rfl | rfl | h
  · exact key 0 rfl rfl rfl (by omega)
  · exact key 1 rfl rfl rfl (by omega)
  · exact key 2 rfl rfl rfl (by omega)
  · exact key 3 rfl rfl rfl (by omega)
  · exact key 4 rfl rfl rfl (by omega)
  · obtain ⟨k, rfl⟩ : ∃ k, r = k + 5 := ⟨r - 5, by omega⟩
    exact key 5 rfl rfl rfl (by omega)
end
section
set_option maxRecDepth 100000
def pre {α : Type} (f : Nat → List α) (k : Nat) : List α := ((List.range k).map f).flatten
theorem pre_succ {α : Type} (f : Nat → List α) (k : Nat) : pre f (k + 1) = pre f k ++ f k := by
  unfold pre
  rw [List.range_succ, List.map_append, List.flatten_append]
  simp
theorem pre_len {α : Type} {f : Nat → List α} {S : Nat → Nat} (h0 : S 0 = 0) {n : Nat} (hs : ∀ i, i < n → S (i + 1) = S i + (f i).length) : ∀ k, k ≤ n → (pre f k).length = S k
  | 0, _ => by simp [pre, h0]
  | k + 1, h => by rw [pre_succ, List.length_append, pre_len h0 hs k (by omega), hs k (by omega)]
theorem S_mono {f : Nat → Nat} {S : Nat → Nat} {n : Nat} (hs : ∀ i, i < n → S (i + 1) = S i + f i) {i : Nat} : ∀ k, i ≤ k → k ≤ n → S i ≤ S k
  | 0, h, _ => by
    have e : i = 0 := by omega
    rw [e]; exact Nat.le_refl _
  | k + 1, h, hk => by
    by_cases e : i = k + 1
    · rw [e]; exact Nat.le_refl _
    · have := S_mono (f := f) hs (i := i) k (by omega) (by omega)
      have := hs k (by omega)
      omega
theorem pre_at {α : Type} {f : Nat → List α} {S : Nat → Nat} (h0 : S 0 = 0) {n : Nat} (hs : ∀ i, i < n → S (i + 1) = S i + (f i).length) {i j : Nat} (hj : j < (f i).length) : ∀ k, i < k → k ≤ n → (pre f k)[S i + j]? = (f i)[j]?
  | 0, h, _ => by omega
  | k + 1, h, hk => by
    rw [pre_succ]
    have hl := pre_len h0 hs k (by omega)
    by_cases e : i = k
    · subst e
      rw [List.getElem?_append_right (by omega), hl]
      congr 1
      omega
    · have hm := S_mono (f := fun i => (f i).length) hs k (show i + 1 ≤ k by omega) (by omega)
      have := hs i (by omega)
      rw [List.getElem?_append_left (by omega)]
      exact pre_at h0 hs hj k (by omega) (by omega)
theorem pre_find {S L : Nat → Nat} (h0 : S 0 = 0) {n : Nat} (hs : ∀ i, i < n → S (i + 1) = S i + L i) : ∀ k, k ≤ n → ∀ p, p < S k → ∃ i j, i < k ∧ j < L i ∧ p = S i + j
  | 0, _, p, hp => by omega
  | k + 1, hk, p, hp => by
    by_cases e : p < S k
    · obtain ⟨i, j, h1, h2, h3⟩ := pre_find h0 hs k (by omega) p e
      exact ⟨i, j, by omega, h2, h3⟩
    · have := hs k (by omega)
      exact ⟨k, p - S k, by omega, by omega, by omega⟩
section
variable {cs : List Nat}
def rw' (cs : List Nat) (i : Nat) : Nat := cs.getD i 0 % 6
theorem start_succ {i : Nat} (h : i < cs.length) : start cs (i + 1) = start cs i + rowLen (rw' cs i) := by
  unfold start rw'
  rw [List.take_succ, List.getElem?_eq_getElem h, List.map_append, List.sum_append, List.getD_eq_getElem?_getD, List.getElem?_eq_getElem h]
  simp
def hts (cs : List Nat) : List Nat := pre (fun i => rowH (rw' cs i)) cs.length ++ [0, 1]
theorem pieces_eq : pieces cs = pre (piece cs) cs.length ++ [.this, .ret] := rfl
theorem sP {i : Nat} (h : i < cs.length) : start cs (i + 1) = start cs i + (piece cs i).length := by rw [piece_len]; exact start_succ h
theorem sH {i : Nat} (h : i < cs.length) : start cs (i + 1) = start cs i + ((fun i => rowH (rw' cs i)) i).length := by rw [rowH_len]; exact start_succ h
theorem start0 : start cs 0 = 0 := by simp [start]
theorem pieces_at {i j : Nat} (hi : i < cs.length) (hj : j < rowLen (rw' cs i)) : (pieces cs)[start cs i + j]? = (piece cs i)[j]? := by
  have hl := pre_len start0 (fun i h => sP (cs := cs) h) cs.length (Nat.le_refl _)
  have hm := S_mono (f := fun i => (piece cs i).length) (fun i h => sP (cs := cs) h) cs.length (show i + 1 ≤ cs.length by omega) (Nat.le_refl _)
  have := start_succ hi
  rw [pieces_eq, List.getElem?_append_left (by omega)]
  exact pre_at start0 (fun i h => sP h) (by rw [piece_len]; exact hj) _ hi (Nat.le_refl _)
theorem hts_at {i j : Nat} (hi : i < cs.length) (hj : j < rowLen (rw' cs i)) : (hts cs)[start cs i + j]? = (rowH (rw' cs i))[j]? := by
  have hl := pre_len start0 (fun i h => sH (cs := cs) h) cs.length (Nat.le_refl _)
  have hm := S_mono (f := fun i => rowLen (rw' cs i)) (fun i h => start_succ (cs := cs) h) cs.length (show i + 1 ≤ cs.length by omega) (Nat.le_refl _)
  have := start_succ hi
  unfold hts
  rw [List.getElem?_append_left (by omega)]
  exact pre_at start0 (fun i h => sH h) (by rw [rowH_len]; exact hj) _ hi (Nat.le_refl _)
theorem hts_start {i : Nat} (hi : i ≤ cs.length) : (hts cs)[start cs i]? = some 0 := by
  by_cases e : i = cs.length
  · subst e
    have hl := pre_len start0 (fun i h => sH (cs := cs) h) cs.length (Nat.le_refl _)
    unfold hts
    rw [List.getElem?_append_right (by omega), hl]
    simp
  · have := hts_at (cs := cs) (i := i) (j := 0) (by omega) (rowLen_pos _)
    rw [Nat.add_zero] at this
    rw [this]
    exact rowH_zero _
theorem pieces_end : (pieces cs)[start cs cs.length]? = some .this ∧ (pieces cs)[start cs cs.length + 1]? = some .ret ∧ (pieces cs).length = start cs cs.length + 2 ∧ (hts cs)[start cs cs.length + 1]? = some 1 := by
  have hl := pre_len start0 (fun i h => sP (cs := cs) h) cs.length (Nat.le_refl _)
  have hl2 := pre_len start0 (fun i h => sH (cs := cs) h) cs.length (Nat.le_refl _)
  rw [pieces_eq]
  unfold hts
  refine ⟨?_, ?_, by simp [hl], ?_⟩
  · rw [List.getElem?_append_right (by omega), hl]; simp
  · rw [List.getElem?_append_right (by omega), hl]; simp
  · rw [List.getElem?_append_right (by omega), hl2]; simp
/-- a place of the code -/
theorem pieces_place {p : Nat} {i : Ins} (h : (pieces cs)[p]? = some i) : (∃ k j, k < cs.length ∧ j < rowLen (rw' cs k) ∧ p = start cs k + j ∧ (piece cs k)[j]? = some i) ∨ (p = start cs cs.length ∧ i = .this) ∨ (p = start cs cs.length + 1 ∧ i = .ret) := by
  obtain ⟨h1, h2, h3, _⟩ := pieces_end (cs := cs)
  have hp : p < start cs cs.length + 2 := by rw [← h3]; exact (List.getElem?_eq_some_iff.mp h).1
  by_cases e : p < start cs cs.length
  · obtain ⟨k, j, a, b, c⟩ := pre_find start0 (fun i h => start_succ (cs := cs) h) cs.length (Nat.le_refl _) p e
    subst c
    rw [pieces_at a b] at h
    exact .inl ⟨k, j, a, b, rfl, h⟩
  · by_cases e2 : p = start cs cs.length
    · subst e2
      rw [h1] at h
      exact .inr (.inl ⟨rfl, (Option.some.inj h).symm⟩)
    · obtain rfl : p = start cs cs.length + 1 := by omega
      rw [h2] at h
      exact .inr (.inr ⟨rfl, (Option.some.inj h).symm⟩)
theorem far_le {k : Nat} (hk : k < cs.length) : k + 1 ≤ k + 1 + cs.getD k 0 / 6 % (cs.length - k) ∧ k + 1 + cs.getD k 0 / 6 % (cs.length - k) ≤ cs.length := by
  have := Nat.mod_lt (cs.getD k 0 / 6) (show 0 < cs.length - k by omega)
  omega
theorem smono {a b : Nat} (h : a ≤ b) (hb : b ≤ cs.length) : start cs a ≤ start cs b := S_mono (f := fun i => rowLen (rw' cs i)) (fun i h => start_succ (cs := cs) h) b h hb
theorem reach_hts {p h : Nat} (r : Reach (pieces cs) p h) : (hts cs)[p]? = some h ∧ ∀ i, (pieces cs)[p]? = some i → i.taken ≤ h ∧ ∀ q ∈ i.succs p h, (hts cs)[q.1]? = some q.2 := by
  have one : ∀ (p h : Nat), (hts cs)[p]? = some h → ∀ (i : Ins), (pieces cs)[p]? = some i → i.taken ≤ h ∧ ∀ q ∈ i.succs p h, (hts cs)[q.1]? = some q.2 := by
    intro p h hp i hi
    rcases pieces_place hi with ⟨k, j, hk, hj, rfl, hpi⟩ | ⟨rfl, rfl⟩ | ⟨rfl, rfl⟩
    · have hfar := far_le hk
      have e1 : piece cs k = rowOf (rw' cs k) (start cs (k + 1 + cs.getD k 0 / 6 % (cs.length - k))) (start cs k + rowLen (rw' cs k) - 1) := by
        rw [← start_succ hk]; rfl
      rw [e1] at hpi
      obtain ⟨h', a1, a2, a3⟩ := row_step hpi
      rw [hts_at hk hj, a1] at hp
      obtain rfl := Option.some.inj hp
      refine ⟨a2, fun q hq => ?_⟩
      rcases a3 q hq with ⟨j', b1, b2⟩ | ⟨b1, b2⟩ | ⟨b1, b2⟩
      · have hj' : j' < rowLen (rw' cs k) := by rw [← rowH_len]; exact (List.getElem?_eq_some_iff.mp b2).1
        rw [b1, hts_at hk hj', b2]
      · rw [b1, b2, ← start_succ hk]; exact hts_start (by omega)
      · rw [b1, b2]; exact hts_start hfar.2
    · rw [hts_start (Nat.le_refl _)] at hp
      obtain rfl := Option.some.inj hp
      refine ⟨by simp [Ins.taken], fun q hq => ?_⟩
      simp [Ins.succs, Ins.last, Ins.arg, Ins.taken, Ins.put] at hq
      subst hq
      exact pieces_end.2.2.2
    · rw [pieces_end.2.2.2] at hp
      obtain rfl := Option.some.inj hp
      refine ⟨by simp [Ins.taken], fun q hq => ?_⟩
      simp [Ins.succs, Ins.last, Ins.arg] at hq
  have all : (hts cs)[p]? = some h := by
    induction r with
    | zero => have := hts_start (cs := cs) (i := 0) (by omega)
              rw [start0] at this; exact this
    | step _ hi hq ih => exact (one _ _ ih _ hi).2 _ hq
  exact ⟨all, one p h all⟩
theorem pieces_good (hpos : 0 < cs.length) (hle : cs.length ≤ 4) : GoodCode (pieces cs) := by
  obtain ⟨h1, h2, h3, _⟩ := pieces_end (cs := cs)
  have hs : start cs cs.length ≤ 20 := by
    have := flat_len cs cs.length
    have hl := pre_len start0 (fun i h => sP (cs := cs) h) cs.length (Nat.le_refl _)
    unfold pre at hl
    omega
  refine ⟨by omega, by omega, fun p i t hi ha => ?_, fun p i hi hl => ?_⟩
  · rcases pieces_place hi with ⟨k, j, hk, hj, rfl, hpi⟩ | ⟨rfl, rfl⟩ | ⟨rfl, rfl⟩
    · have hfar := far_le hk
      have m1 := smono (cs := cs) (a := k + 1) hfar.1 hfar.2
      have m2 := smono (cs := cs) hfar.2 (Nat.le_refl _)
      have m3 := smono (cs := cs) (a := k + 1) (b := cs.length) (by omega) (Nat.le_refl _)
      have m4 := start_succ hk
      have hj1 := rowOf_jumps (List.mem_of_getElem? hpi)
      have hj2 := (row_keep hpi).1
      cases i <;> simp only [Ins.arg, Option.some.injEq, reduceCtorEq] at ha
      all_goals subst ha
      · rw [hj1.1 _ rfl]; omega
      · rw [hj1.2.1 _ rfl]; omega
      · have h5 := hj1.2.2.1 _ rfl
        have h6 : j + 1 < rowLen (rw' cs k) := hj2 _ (.inl rfl)
        omega
      · have h5 := hj1.2.2.2 _ rfl
        have h6 : j + 1 < rowLen (rw' cs k) := hj2 _ (.inr rfl)
        omega
    · simp [Ins.arg] at ha
    · simp [Ins.arg] at ha
  · rcases pieces_place hi with ⟨k, j, hk, hj, rfl, hpi⟩ | ⟨rfl, rfl⟩ | ⟨rfl, rfl⟩
    · have m3 := smono (cs := cs) (a := k + 1) (b := cs.length) (by omega) (Nat.le_refl _)
      have m4 := start_succ hk
      omega
    · omega
    · simp [Ins.last] at hl
theorem pieces_fine : ¬ Bad (pieces cs) := by
  rintro (⟨p, h, i, r, hi, hl⟩ | ⟨p, h, h', r, r', hne⟩)
  · have := ((reach_hts r).2 i hi).1
    omega
  · have h1 := (reach_hts r).1
    rw [(reach_hts r').1] at h1
    exact hne (Option.some.inj h1).symm
end
end
section
set_option maxRecDepth 100000
def Ins.move (s : Nat) : Ins → Ins
  | .jmp t => .jmp (if t ≤ s then t else t + 1)
  | .jf t => .jf (if t ≤ s then t else t + 1)
  | .jfk t => .jfk (if t ≤ s then t else t + 1)
  | .jtk t => .jtk (if t ≤ s then t else t + 1)
  | i => i
theorem Ins.move_op (s : Nat) (i : Ins) : (i.move s).op = i.op := by cases i <;> rfl
theorem Ins.move_last (s : Nat) (i : Ins) : (i.move s).last = i.last := by cases i <;> rfl
theorem Ins.move_arg (s : Nat) (i : Ins) : (i.move s).arg = i.arg.map fun t => if t ≤ s then t else t + 1 := by cases i <;> rfl
/-- the code with x put in at s -/
def other (code : List Ins) (s : Nat) (x : Ins) : List Ins := ((code.map (Ins.move s)).take s ++ [x]) ++ (code.map (Ins.move s)).drop s
theorem other_at {code : List Ins} {s p : Nat} {x i : Ins} (hs : s < code.length) (h : (other code s x)[p]? = some i) : (p < s ∧ ∃ j, code[p]? = some j ∧ i = j.move s) ∨ (p = s ∧ i = x) ∨ (s < p ∧ ∃ j, code[p - 1]? = some j ∧ i = j.move s) := by
  unfold other at h
  have hl : ((code.map (Ins.move s)).take s).length = s := by rw [List.length_take, List.length_map]; omega
  by_cases a : p < s
  · rw [List.getElem?_append_left (by rw [List.length_append, hl]; omega), List.getElem?_append_left (by omega), List.getElem?_take, if_pos a, List.getElem?_map] at h
    cases hj : code[p]? with
    | none => rw [hj] at h; cases h
    | some j => rw [hj] at h; exact .inl ⟨a, j, rfl, (Option.some.inj h).symm⟩
  · by_cases b : p = s
    · subst b
      rw [List.getElem?_append_left (by rw [List.length_append, hl]; simp), List.getElem?_append_right (by omega), hl] at h
      simp at h
      exact .inr (.inl ⟨rfl, h.symm⟩)
    · rw [List.getElem?_append_right (by rw [List.length_append, hl]; simp; omega), List.getElem?_drop, List.getElem?_map] at h
      have e : s + (p - ((code.map (Ins.move s)).take s ++ [x]).length) = p - 1 := by rw [List.length_append, hl]; simp; omega
      rw [e] at h
      cases hj : code[p - 1]? with
      | none => rw [hj] at h; cases h
      | some j => rw [hj] at h; exact .inr (.inr ⟨by omega, j, rfl, (Option.some.inj h).symm⟩)
theorem other_len {code : List Ins} {s : Nat} {x : Ins} (hs : s < code.length) : (other code s x).length = code.length + 1 := by
  unfold other
  rw [List.length_append, List.length_append, List.length_take, List.length_drop, List.length_map]
  simp
  omega
theorem other_good {code : List Ins} {s : Nat} {x : Ins} (G : GoodCode code) (hs : s < code.length) (hsz : code.length ≤ 99) (hx : x.arg = none) (_ : x.last = false) : GoodCode (other code s x) := by
  have hl := other_len (x := x) hs
  refine ⟨by omega, by omega, fun p i t hi ha => ?_, fun p i hi hla => ?_⟩
  · rcases other_at hs hi with ⟨a, j, hj, rfl⟩ | ⟨rfl, rfl⟩ | ⟨a, j, hj, rfl⟩
    · rw [Ins.move_arg] at ha
      cases hk : j.arg with
      | none => rw [hk] at ha; cases ha
      | some u =>
        rw [hk] at ha
        have := G.jump _ _ _ hj hk
        have e := Option.some.inj ha
        simp only at e
        split at e <;> omega
    · rw [hx] at ha; cases ha
    · rw [Ins.move_arg] at ha
      cases hk : j.arg with
      | none => rw [hk] at ha; cases ha
      | some u =>
        rw [hk] at ha
        have := G.jump _ _ _ hj hk
        have e := Option.some.inj ha
        simp only at e
        split at e <;> omega
  · rcases other_at hs hi with ⟨a, j, hj, rfl⟩ | ⟨rfl, rfl⟩ | ⟨a, j, hj, rfl⟩
    · omega
    · omega
    · rw [Ins.move_last] at hla
      have := G.next _ _ hj hla
      omega
/-- a final list and a list of all that is reached are the same pairs -/
theorem finals_same {code : List Ins} {fs gs : List (Nat × Nat)} (f : Final code fs) (g : HFinal code gs) : ∀ q, q ∈ fs ↔ q ∈ gs := fun q =>
  ⟨fun h => g.all _ _ (f.reach q h), fun h => f.all (g.reach q h)⟩
theorem nodup_fs {fs : List (Nat × Nat)} (h : (fs.map (·.1)).Nodup) : fs.Nodup := by
  rw [List.nodup_iff_pairwise_ne] at *
  rw [List.pairwise_map] at h
  exact h.imp fun hab e => hab (by rw [e])
theorem two_le {code : List Ins} {fs : List (Nat × Nat)} (G : GoodCode code) (h0 : ∃ i, code[0]? = some i ∧ i.taken = 0 ∧ i ≠ .ret) (hr : ∀ p h, Reach code p h → (p, h) ∈ fs) : 2 ≤ fs.length := by
  obtain ⟨i, hi, ht, hne⟩ := h0
  have hz := hr 0 0 .zero
  have hs : ∃ q, q ∈ i.succs 0 0 := by
    cases i with
    | ret => exact absurd rfl hne
    | jmp t => exact ⟨(t, 0), by simp [Ins.succs, Ins.last, Ins.arg, Ins.taken, Ins.put]⟩
    | _ => exact ⟨_, List.mem_append_left _ (by simp only [Ins.last, Bool.false_eq_true, if_false]; exact .head _)⟩
  obtain ⟨q, hq⟩ := hs
  have h1 := hr _ _ (.step .zero hi hq)
  have h2 := (G.succ hi hq).1
  match fs, hz, h1 with
  | [a], hz, h1 =>
    simp at hz h1
    rw [← hz] at h1
    have := congrArg Prod.fst h1
    simp at this
    omega
  | _ :: _ :: _, _, _ => simp
/-- one height a place, and enough at each: just what the checker lets -/
theorem bad_iff {code : List Ins} {gs : List (Nat × Nat)} (g : HFinal code gs) : ¬ Bad code ↔ ((gs.map (·.1)).foldl putP []).length = gs.length := by
  have hf := fold_full (gs.map (·.1)) [] (by simp)
  simp only [List.length_nil, Nat.zero_add, List.length_map, List.map_nil, List.not_mem_nil, not_false_eq_true, implies_true, and_true] at hf
  rw [hf]
  constructor
  · intro hb
    rw [List.nodup_iff_pairwise_ne, List.pairwise_map]
    have := g.nodup
    rw [List.nodup_iff_pairwise_ne] at this
    refine List.Pairwise.imp_of_mem (fun {a b} ha hb' hne e => ?_) this
    refine hb (.inr ⟨a.1, a.2, b.2, g.reach a ha, ?_, fun e2 => hne (Prod.ext e e2)⟩)
    rw [e]; exact g.reach b hb'
  · rintro hn (hu | ⟨p, h, h', r, r', hne⟩)
    · exact g.enough hu
    · exact hne (nodup_one hn (g.all _ _ r) (g.all _ _ r'))
theorem hmax {fs : List (Nat × Nat)} {M : Int} (hM : M ∈ fs.map fun q => (q.2 : Int)) (hle : ∀ a ∈ fs.map (fun q => (q.2 : Int)), a ≤ M) {gs : List (Nat × Nat)} (hs : ∀ q, q ∈ gs ↔ q ∈ fs) : (((gs.map (·.2)).foldl max 0 : Nat) : Int) = M := by
  have key : ∀ (l : List Nat) (a : Nat), a ≤ l.foldl max a ∧ (∀ x ∈ l, x ≤ l.foldl max a) ∧ (l.foldl max a = a ∨ l.foldl max a ∈ l) := by
    intro l
    induction l with
    | nil => intro a; simp
    | cons y l ih =>
      intro a
      obtain ⟨h1, h2, h3⟩ := ih (max a y)
      simp only [List.foldl_cons]
      refine ⟨by omega, fun x hx => ?_, ?_⟩
      · rcases List.mem_cons.mp hx with rfl | hx
        · omega
        · exact h2 x hx
      · rcases h3 with h3 | h3
        · rcases Nat.le_total a y with h | h
          · rw [Nat.max_eq_right h] at h3
            exact .inr (by rw [Nat.max_eq_right h, h3]; exact .head _)
          · rw [Nat.max_eq_left h] at h3
            exact .inl (by rw [Nat.max_eq_left h, h3])
        · exact .inr (.tail _ h3)
  obtain ⟨_, h2, h3⟩ := key (gs.map (·.2)) 0
  obtain ⟨q, hq, rfl⟩ := List.mem_map.mp hM
  have a1 := h2 q.2 (List.mem_map.mpr ⟨q, (hs q).mpr hq, rfl⟩)
  rcases h3 with h3 | h3
  · omega
  · obtain ⟨r, hr, e⟩ := List.mem_map.mp h3
    have a2 := hle _ (List.mem_map.mpr ⟨r, (hs r).mp hr, rfl⟩)
    skip
    omega
end
section
set_option maxRecDepth 100000
theorem pieces_head {cs : List Nat} (hpos : 0 < cs.length) : ∃ i, (pieces cs)[0]? = some i ∧ i.taken = 0 ∧ i ≠ .ret := by
  have e := pieces_at (cs := cs) (i := 0) (j := 0) hpos (rowLen_pos _)
  rw [start0, Nat.zero_add] at e
  have hl : 0 < (piece cs 0).length := by rw [piece_len]; exact rowLen_pos _
  rw [List.getElem?_eq_getElem hl] at e
  refine ⟨_, e, ?_, ?_⟩
  · have := ((reach_hts (cs := cs) .zero).2 _ e).1
    omega
  · have h2 : (piece cs 0)[0]? = some (piece cs 0)[0] := List.getElem?_eq_getElem hl
    unfold piece at h2
    exact (row_keep h2).2
theorem final_le {code : List Ins} {fs : List (Nat × Nat)} (G : GoodCode code) (f : Final code fs) : fs.length ≤ code.length := by
  have := nodup_le code.length (fs.map (·.1)) f.nodup (fun x hx => by
    obtain ⟨q, hq, rfl⟩ := List.mem_map.mp hx
    exact (G.reach (f.reach q hq)).1)
  rwa [List.length_map] at this
theorem hfinal_one {code : List Ins} {fs : List (Nat × Nat)} (g : HFinal code fs) (hb : ¬ Bad code) : (fs.map (·.1)).Nodup := by
  have hf := fold_full (fs.map (·.1)) [] (by simp)
  simp only [List.length_nil, Nat.zero_add, List.length_map, List.map_nil, List.not_mem_nil, not_false_eq_true, implies_true, and_true] at hf
  exact hf.mp ((bad_iff g).mp hb)
theorem hfinal_le {code : List Ins} {fs : List (Nat × Nat)} (G : GoodCode code) (f : HFinal code fs) (hb : ¬ Bad code) : fs.length ≤ code.length := by
  have := nodup_le code.length (fs.map (·.1)) (hfinal_one f hb) (fun x hx => by
    obtain ⟨q, hq, rfl⟩ := List.mem_map.mp hx
    exact (G.reach (f.reach q hq)).1)
  rwa [List.length_map] at this
theorem final_two {code : List Ins} {fs : List (Nat × Nat)} (G : GoodCode code) (h0 : ∃ i, code[0]? = some i ∧ i.taken = 0 ∧ i ≠ .ret) (f : Final code fs) : 2 ≤ fs.length := two_le G h0 fun _ _ r => f.all r
theorem hfinal_two {code : List Ins} {fs : List (Nat × Nat)} (G : GoodCode code) (h0 : ∃ i, code[0]? = some i ∧ i.taken = 0 ∧ i ≠ .ret) (f : HFinal code fs) : 2 ≤ fs.length := two_le G h0 f.all
theorem pieces_len {cs : List Nat} (hle : cs.length ≤ 4) : (pieces cs).length ≤ 22 := by
  have key : ∀ l : List Nat, ((l.map fun c => rowLen (c % 6)).sum) ≤ 5 * l.length := by
    intro l
    induction l with
    | nil => simp
    | cons a l ih => have := rowLen_le (a % 6); simp only [List.map_cons, List.sum_cons, List.length_cons]; omega
  have h1 := (pieces_end (cs := cs)).2.2.1
  have h2 := key (cs.take cs.length)
  have h3 : (cs.take cs.length).length ≤ 4 := by rw [List.length_take]; omega
  rw [h1]
  unfold start
  omega
end
section
set_option maxRecDepth 100000
section
variable {prog : Program} {w : World} {A : Around} {E : Value → Shared → Prop} {env : Env} {h₀ : Heap} {target : PySem.Expr} {body : List Stmt} {Q : Flow → Shared → Prop} {s : Shared}
theorem iter_vals {d vw : Addr} {od : Obj} {kvs : List (Int × Value)} {m₀ : Str → Option Value} {news : List (Addr × Obj)} (P : Nat → (Str → Option Value) → List (Addr × Obj) → Prop)
    (hh : A.handled = none) (F : Fr h₀ env.locals s.heap m₀) (N : News h₀ env.locals s.heap news) (hv : (vw, { cls := .type "dict_values", data := .fields #[.ref d] }) ∈ news) (hm : (d, od) ∈ news) (hd : od.IsDictOf (PySem.intKind prog w) kvs) (hP : P 0 m₀ news)
    (step : ∀ I i v m₁ n₁ h tk o, (kvs.map (·.2))[i]? = some v → P i m₁ n₁ → (d, od) ∈ n₁ → (∀ p ∈ n₁, p.1 ≠ I) → o.cls ≠ .type "tuple" → Fr h₀ env.locals h m₁ → News h₀ env.locals h ((I, o) :: n₁) →
      wpAny (model prog w) A (assign target env v) (fun _ s₂ => wpAny (model prog w) A (execs body env) (TurnPost h₀ env.locals s I o (d, od) (P (i + 1)) Q) E s₂) E { s with heap := h, toks := tk })
    (done : ∀ h tk m' n', P kvs.length m' n' → (d, od) ∈ n' → Fr h₀ env.locals h m' → News h₀ env.locals h n' → Q .next { s with heap := h, toks := tk }) :
    wpAny (model prog w) A (pyIter (.ref vw)) (fun it s₂ => TurnsAt prog w A h₀ env target body Q E it s₂) E s :=
  kta_vals (knd := PySem.intKind prog w) hh F N ⟨_, (N _ hv).1, rfl, rfl⟩ hm hd (by rw [List.map_map]; rfl) fun I hI =>
    turns_rest (vs := kvs.map (·.2)) P (fun i v m₁ n₁ h tk o a b c d e f g => step I i v m₁ n₁ h tk o a b c d (by rw [e]; decide) f g) (fun h tk m' n' hp => done h tk m' n' (by rw [List.length_map] at hp; exact hp)) hP hm fun p hp => Nat.ne_of_lt (hI p hp)
end
theorem fs_vals {n : List (Addr × Obj)} {kvs : List (Int × Value)} {fs : List (Nat × Nat)} (h : All2 (FsIn n) kvs fs) {i : Nat} {v : Value} (e : (kvs.map (·.2))[i]? = some v) : ∃ q, fs[i]? = some q ∧ StkIn n v q.2 := by
  rw [List.getElem?_map] at e
  cases hk : kvs[i]? with
  | none => rw [hk] at e; cases e
  | some a =>
    rw [hk] at e
    obtain rfl : a.2 = v := Option.some.inj e
    obtain ⟨q, hq, r⟩ := h.get' hk
    cases r with
    | mk s => exact ⟨_, hq, s⟩
def hiest (fs : List (Nat × Nat)) (j : Nat) : Nat := ((fs.take j).map (·.2)).foldl max 0
theorem hiest_next {fs : List (Nat × Nat)} {j : Nat} {q : Nat × Nat} (h : fs[j]? = some q) : hiest fs (j + 1) = max (hiest fs j) q.2 := by
  unfold hiest
  rw [List.take_succ, h]
  simp
end
section
set_option maxRecDepth 100000
section
variable {prog : Program} {w : World} {A : Around} {E : Value → Shared → Prop} {env : Env} {h₀ : Heap} {body : List Stmt} {Q : Flow → Shared → Prop} {s : Shared} {elts : List PySem.Expr} {k : Nat} {pos : Pos}
/-- what a turn over enumerate must leave -/
def EnumPost (h₀ : Heap) (L : Addr) (s : Shared) (I : Addr) (oE oI : Obj) (keep : Addr × Obj) (P : (Str → Option Value) → List (Addr × Obj) → Prop) (Q : Flow → Shared → Prop) (f : Flow) (s₃ : Shared) : Prop :=
  match f with
  | .ret v => Q (.ret v) s₃
  | .brk => Q .next s₃
  | _ => ∃ h' tk' m' n', s₃ = { s with heap := h', toks := tk' } ∧ Fr h₀ L h' m' ∧ News h₀ L h' ((I + 1, oE) :: (I, oI) :: n') ∧ (∀ p ∈ n', p.1 ≠ I ∧ p.1 ≠ I + 1) ∧ keep ∈ n' ∧ P m' n'
theorem iter_enum {ax : Addr} {vs : List Value} {n : Nat} {m₀ : Str → Option Value} {news : List (Addr × Obj)} (P : Nat → (Str → Option Value) → List (Addr × Obj) → Prop)
    (hh : A.handled = none) (F : Fr h₀ env.locals s.heap m₀) (N : News h₀ env.locals s.heap news) (hm : (ax, listOf vs.toArray n) ∈ news) (hP : P 0 m₀ news)
    (step : ∀ I i v T t m₁ n₁ h tk oE oI, vs[i]? = some v → P i m₁ n₁ → (ax, listOf vs.toArray n) ∈ n₁ → (∀ p ∈ n₁, p.1 ≠ I ∧ p.1 ≠ I + 1) → oI.cls = .type "list_iterator" → oE.cls = .type "enumerate" → IsTup h T #[.int (i : Int) t, v] → Fr h₀ env.locals h m₁ → News h₀ env.locals h ((I + 1, oE) :: (I, oI) :: n₁) →
      wpAny (model prog w) A (assign (.Tuple elts k pos) env (.ref T)) (fun _ s₂ => wpAny (model prog w) A (execs body env) (EnumPost h₀ env.locals s I oE oI (ax, listOf vs.toArray n) (P (i + 1)) Q) E s₂) E { s with heap := h, toks := tk })
    (done : ∀ h tk m' n', P vs.length m' n' → (ax, listOf vs.toArray n) ∈ n' → Fr h₀ env.locals h m' → News h₀ env.locals h n' → Q .next { s with heap := h, toks := tk }) :
    wpAny (model prog w) A (call (.type "enumerate") [.ref ax]) (fun xv s₁ => wpAny (model prog w) A (pyIter xv) (fun it s₂ => TurnsAt prog w A h₀ env (.Tuple elts k pos) body Q E it s₂) E s₁) E s := by
  refine ktu_enum hh F N hm rfl rfl rfl fun I hI => ?_
  have gen : ∀ (ws : List Value) (i : Nat), vs.drop i = ws → i ≤ vs.length → ∀ m news, P i m news → (ax, listOf vs.toArray n) ∈ news → (∀ p ∈ news, p.1 ≠ I ∧ p.1 ≠ I + 1) →
      ItemsRest prog w A E h₀ env (.Tuple elts k pos) body Q s [(I + 1, "enumerate"), (I, "list_iterator")] [(ax, listOf vs.toArray n)] (enumItems i ws) m news := by
    intro ws
    induction ws with
    | nil =>
      intro i hd hle m news hP hk _
      refine ItemsRest.zero (fun h tk F N => ?_)
      have : i = vs.length := by
        have := List.drop_eq_nil_iff.mp hd
        omega
      subst this
      exact done h tk m news hP hk F N
    | cons v ws ih =>
      intro i hd hle m news hP hk hI
      have hv : vs[i]? = some v := by
        have := congrArg List.head? hd
        simpa [List.head?_drop] using this
      have hlt : i < vs.length := (List.getElem?_eq_some_iff.mp hv).1
      have hd' : vs.drop (i + 1) = ws := by
        have := congrArg List.tail hd
        simpa [List.tail_drop] using this
      refine ItemsRest.pair (fun T t h tk hT F => ?_)
      refine AllObj.cons (fun oE hE => AllObj.cons (fun oI ho => AllObj.nil (fun N => ?_)))
      refine wpAny_mono (step I i v T t m news h tk oE oI hv hP hk hI ho hE hT F N) (fun _ s₂ h₂ => wpAny_mono h₂ (fun f s₃ h₃ => ?_) fun _ _ e => e) fun _ _ e => e
      have fin : (∃ h' tk' m' n', s₃ = { s with heap := h', toks := tk' } ∧ Fr h₀ env.locals h' m' ∧ News h₀ env.locals h' ((I + 1, oE) :: (I, oI) :: n') ∧ (∀ p ∈ n', p.1 ≠ I ∧ p.1 ≠ I + 1) ∧ (ax, listOf vs.toArray n) ∈ n' ∧ P (i + 1) m' n') →
          UnrEndW h₀ env.locals { s with heap := h, toks := tk } [(I + 1, oE), (I, oI)] (fun m' n' => SubL [(ax, listOf vs.toArray n)] n' ∧ ItemsRest prog w A E h₀ env (.Tuple elts k pos) body Q s [(I + 1, "enumerate"), (I, "list_iterator")] [(ax, listOf vs.toArray n)] (enumItems (i + 1) ws) m' n') s₃ := by
        rintro ⟨h', tk', m', n', e, F', N', hI', hk', hP'⟩
        refine ⟨h', tk', m', n', e, F', N', fun p hp q hq => ?_, ⟨hk', trivial⟩, ih (i + 1) hd' hlt m' n' hP' hk' hI'⟩
        rcases List.mem_cons.mp hq with rfl | hq
        · exact (hI' p hp).2
        · rw [List.mem_singleton.mp hq]
          exact (hI' p hp).1
      cases f with
      | ret v => exact h₃
      | brk => exact h₃
      | next => exact fin h₃
      | cont => exact fin h₃
  exact gen vs 0 rfl (Nat.zero_le _) m₀ news hP hm fun p hp => ⟨Nat.ne_of_lt (hI p hp), Nat.ne_of_lt (Nat.lt_succ_of_lt (hI p hp))⟩
end
end
section
set_option maxRecDepth 100000
/-- a dict by its entries, whatever its keys -/
def RawAt (h : Heap) (d : Addr) (es : Array DictEntry) (ep : Nat) : Prop := ∃ o, h.get? d = some o ∧ o.ExactDict ∧ o.data = .dict es ep
theorem RawAt.lt {h : Heap} {d : Addr} {es : Array DictEntry} {ep : Nat} (x : RawAt h d es ep) : d < h.objs.size := let ⟨_, ho, _⟩ := x; Heap.lt_size ho
theorem RawAt.typeIs {s : Shared} {d : Addr} {es : Array DictEntry} {ep : Nat} (x : RawAt s.heap d es ep) : s.TypeIs (.ref d) "dict" := let ⟨o, ho, hc, _⟩ := x; ⟨o, ho, hc.1⟩
theorem RawAt.at {h h' : Heap} {d : Addr} {es : Array DictEntry} {ep : Nat} (x : RawAt h d es ep) (e : ∀ o, h.get? d = some o → h'.get? d = some o) : RawAt h' d es ep := let ⟨o, ho, r⟩ := x; ⟨o, e _ ho, r⟩
section
variable {prog : Program} {w : World} {A : Around} {E : Value → Shared → Prop} {s : Shared} {d it : Addr} {es : Array DictEntry} {ep i : Nat}
theorem raw_iter {Q : Value → Shared → Prop} (lo : (d == sysModules) = false) (hm : RawAt s.heap d es ep)
    (hQ : Q (.ref s.heap.objs.size) { s with heap := s.heap.push { cls := .type "dict_keyiterator", data := .fields #[.ref d, .int 0 0, .int es.size 0, .int ep 0] } }) :
    wpAny (model prog w) A (pyIter (.ref d)) Q E s := by
  obtain ⟨o, ho, hc, hdat⟩ := id hm
  have hT : s.TypeIs (.ref d) "dict" := hm.typeIs
  refine wpAny_pyIter_slot hT PySem.F.slot_dict_iter (wpAny_call_entry PySem.F.slot_dict_iter hT PySem.F.entry_dict_iter ?_ (PySem.F.args_dict_iter_1 _))
  unfold Builtin.«dict.__iter__»
  refine wpAny_bind ?_
  unfold Builtin.Dict.dictSlotNone
  refine wpAny_bind (wpAny_notOrdered_dict hT ?_)
  show wpAny _ _ (pure (Value.ref d)) _ _ s
  refine wpAny_pure ?_
  show wpAny _ _ (Builtin.Dict.showsAll d >>= _) _ _ s
  unfold Builtin.Dict.showsAll
  rw [if_neg (by rw [lo]; exact Bool.false_ne_true)]
  refine wpAny_bind (wpAny_pure ?_)
  refine wpAny_bind (wpAny_dictEntries ho hdat ?_)
  refine wpAny_bind (wpAny_dictEpoch ho hdat ?_)
  refine wpAny_bind (wpAny_newObj_type (wpAny_pure ⟨_, rfl, "dict_keyiterator", _, ⟨_, Heap.get?_push_size _ rfl, rfl⟩, PySem.F.slot_dict_keyiterator_next.lookup, ?_⟩))
  simpa [rawInt] using hQ
theorem raw_item {e : DictEntry} {Q : Option Value → Shared → Prop} (hit : s.heap.IsKeyIter it d i es.size ep) (hm : RawAt s.heap d es ep) (hx : es[i]? = some e)
    (hQ : ∀ h', h'.IsKeyIter it d (i + 1) es.size ep → Heap.SameBut it s.heap h' → Q (some e.key) { s with heap := h' }) :
    wpAny (model prog w) A (pyNext (.ref it)) Q E s := by
  obtain ⟨o, ho, hc, hd⟩ := id hit
  obtain ⟨od, hod, hcd, hdd⟩ := id hm
  unfold pyNext
  refine wpAny_bind (wpAny_attempt (wpAny_callSpecial?_slot (name := Str.ofString "__next__") hit.typeIs PySem.F.slot_dict_keyiterator_next
    (wpAny_call_entry PySem.F.slot_dict_keyiterator_next hit.typeIs PySem.F.entry_dict_keyiterator_next ?_ (PySem.F.args_dict_keyiterator_next_1 _))))
  refine wpAny_bind (wpAny_pure ?_)
  refine wpAny_bind ?_
  refine wpAny_bind ?_
  first | refine wpAny_bind (wpAny_typeNameOfWhole_keyiter hit.typeIs (wpAny_pure ?_)) | refine wpAny_bind (wpAny_typeNameOf_keyiter hit.typeIs (wpAny_pure ?_))
  refine wpAny_bind (wpAny_fieldsOf ho hd ?_)
  have hown : Builtin.Dict_items.ownsTuple "dict_keyiterator" = false := by decide
  simp only [hown, Bool.false_eq_true, if_false]
  show wpAny _ _ (if (Value.ref d == Value.none) = true then _ else _) _ _ s
  rw [if_neg (show ¬ ((Value.ref d == Value.none) = true) from Bool.false_ne_true)]
  refine wpAny_bind (wpAny_pure ?_)
  refine wpAny_bind (wpAny_dictEntries hod hdd ?_)
  rw [if_neg (by simp)]
  refine wpAny_bind (wpAny_pure ?_)
  refine wpAny_bind (wpAny_dictEpoch hod hdd ?_)
  rw [if_neg (by simp)]
  refine wpAny_pure ?_
  obtain ⟨hlt, he⟩ := Array.getElem?_eq_some_iff.mp hx
  simp only [show ¬ ((i : Int) < 0) from by omega, if_false, Int.toNat_natCast, Array.getElem?_eq_getElem hlt]
  refine wpAny_bind ?_
  first | refine wpAny_bind (wpAny_typeNameOfWhole_keyiter hit.typeIs (wpAny_pure ?_)) | refine wpAny_bind (wpAny_typeNameOf_keyiter hit.typeIs (wpAny_pure ?_))
  refine wpAny_bind (wpAny_isOneOf_keyiter hit.typeIs ?_)
  show wpAny _ _ (setField (.ref it) 1 (rawInt ((i : Int) + 1)) >>= _) _ _ s
  refine wpAny_bind (wpAny_setField ho hd (by simp) ?_)
  have hit' : (s.heap.update it (Obj.mapFields (·.setIfInBounds 1 (rawInt ((i : Int) + 1))))).IsKeyIter it d (i + 1) es.size ep :=
    ⟨_, Heap.get?_update_self _ ho (Obj.isFreed_of_fields (Obj.data_mapFields hd _)), (Obj.cls_mapFields ..).trans hc, by rw [Obj.data_mapFields hd]; simp [rawInt]⟩
  refine wpAny_bind (wpAny_holding ?_)
  refine wpAny_bind (wpAny_isOneOf_keyiter (s := { s with heap := s.heap.update it (Obj.mapFields (·.setIfInBounds 1 (rawInt ((i : Int) + 1)))) }) hit'.typeIs ?_)
  show wpAny _ _ (pure es[i].key) _ _ _
  rw [he]
  exact wpAny_pure (wpAny_pure ⟨_, rfl, wpAny_pure (hQ _ hit' (Heap.SameBut.update ..))⟩)
theorem raw_end {Q : Option Value → Shared → Prop} (hh : A.handled = none) (hit : s.heap.IsKeyIter it d es.size es.size ep) (hm : RawAt s.heap d es ep)
    (hQ : ∀ h', Heap.ExtBut it s.heap h' → Q none { s with heap := h' }) : wpAny (model prog w) A (pyNext (.ref it)) Q E s := by
  obtain ⟨o, ho, hc, hd⟩ := id hit
  obtain ⟨od, hod, hcd, hdd⟩ := id hm
  unfold pyNext
  refine wpAny_bind (wpAny_attempt (wpAny_callSpecial?_slot (name := Str.ofString "__next__") hit.typeIs PySem.F.slot_dict_keyiterator_next
    (wpAny_call_entry PySem.F.slot_dict_keyiterator_next hit.typeIs PySem.F.entry_dict_keyiterator_next ?_ (PySem.F.args_dict_keyiterator_next_1 _))))
  refine wpAny_bind (wpAny_pure ?_)
  refine wpAny_bind ?_
  refine wpAny_bind ?_
  first | refine wpAny_bind (wpAny_typeNameOfWhole_keyiter hit.typeIs (wpAny_pure ?_)) | refine wpAny_bind (wpAny_typeNameOf_keyiter hit.typeIs (wpAny_pure ?_))
  refine wpAny_bind (wpAny_fieldsOf ho hd ?_)
  have hown : Builtin.Dict_items.ownsTuple "dict_keyiterator" = false := by decide
  simp only [hown, Bool.false_eq_true, if_false]
  show wpAny _ _ (if (Value.ref d == Value.none) = true then _ else _) _ _ s
  rw [if_neg (show ¬ ((Value.ref d == Value.none) = true) from Bool.false_ne_true)]
  refine wpAny_bind (wpAny_pure ?_)
  refine wpAny_bind (wpAny_dictEntries hod hdd ?_)
  rw [if_neg (by simp)]
  refine wpAny_bind (wpAny_pure ?_)
  refine wpAny_bind (wpAny_dictEpoch hod hdd ?_)
  rw [if_neg (by simp)]
  refine wpAny_pure ?_
  simp only [show ¬ ((es.size : Int) < 0) from by omega, if_false, Int.toNat_natCast, Array.getElem?_eq_none (Nat.le_refl es.size)]
  refine wpAny_bind ?_
  first | refine wpAny_bind (wpAny_typeNameOfWhole_keyiter hit.typeIs (wpAny_pure ?_)) | refine wpAny_bind (wpAny_typeNameOf_keyiter hit.typeIs (wpAny_pure ?_))
  show wpAny _ _ (setField (.ref it) 0 .none >>= _) _ _ s
  refine wpAny_bind (wpAny_setField ho hd (by simp) ?_)
  show wpAny _ _ (newExc (.type "StopIteration") [] >>= _) _ _ _
  refine wpAny_bind ?_
  simp only [newExc, newTuple]
  refine wpAny_bind (wpAny_newObj_type ?_ (by size_fits))
  refine wpAny_bind (m := firstArgMember _ _) (wpAny_of_eq (a := Value.none) (by first | rfl | (simp only [firstArgMember]; rfl)) ?_)
  refine wpAny_newObj_type ?_ (by size_fits)
  simp only [raiseNew]
  refine wpAny_bind (wpAny_handled ?_)
  rw [show A.in1.handled = none from hh]
  refine wpAny_bind (wpAny_pure (wpAny_throw ?_))
  refine wpAny_bind (wpAny_isInstance (T := "StopIteration") (b := true) ⟨_, Heap.get?_push_size _ rfl, rfl⟩ isSubtype_stop ?_)
  exact wpAny_pure (hQ _ (((Heap.SameBut.update ..).extBut.push _).push _))
theorem raw_walks (hh : A.handled = none) (I d : Addr) (hne : d ≠ I) (es : Array DictEntry) (ep : Nat) :
    Walks prog w A I [I, d] [I] es.size (fun i v => ∃ e, es[i]? = some e ∧ v = e.key) (fun i h => h.IsKeyIter I d i es.size ep ∧ RawAt h d es ep) where
  sub := fun b hb => by simp at hb; simp [hb]
  frame := fun _ _ _ st hk => ⟨st.1.at fun o e => hk I (by simp) o e, st.2.at fun o e => hk d (by simp) o e⟩
  item := fun i s Q E hi st hQ => by
    have hx : es[i]? = some es[i] := Array.getElem?_eq_getElem hi
    refine raw_item st.1 st.2 hx fun h' hit' hs' => ?_
    exact hQ _ h' s.toks ⟨_, hx, rfl⟩ ⟨hit', st.2.at fun o e => hs'.extBut d o hne e⟩ fun b o hb e => hs'.extBut b o (fun h => hb (by simp [h])) e
  done := fun s Q E st hQ => raw_end hh st.1 st.2 fun h' he' => hQ h' s.toks fun b o hb e => he' b o (fun h => hb (by simp [h])) e
  self := fun _ _ _ _ st hQ => wpAny_pyIter_keyiter st.1 hQ
theorem raw_src (lo : (d == sysModules) = false) : KdlSrc prog w "dict" d d es.size (fun i v => ∃ e, es[i]? = some e ∧ v = e.key) (fun h => RawAt h d es ep) where
  type := fun _ hm => hm.typeIs
  there := fun _ hm => ⟨hm.lt, hm.lt⟩
  keep := fun _ _ hm hk => hm.at fun o e => hk d (.inl rfl) o e
  notList := by decide
  notTuple := by decide
  hint := fun _ _ _ _ hm hq => kdl_hint_dict hm.typeIs hq
  iter := fun _ _ hh hm => ⟨_, _, (fun _ _ hq => raw_iter lo hm hq), raw_walks hh _ d (Nat.ne_of_lt hm.lt) es ep, ⟨⟨_, Heap.get?_push_size _ rfl, rfl, rfl⟩, hm.at fun _ e => Heap.get?_push_of_some _ e⟩⟩
end
end
section
open LCg LCp
set_option maxRecDepth 100000
set_option maxHeartbeats 2000000
section
variable {prog : Program} {w : World} {A : Around} {E : Value → Shared → Prop} {s : Shared} {h₀ : Heap} {L : Addr} {m : Str → Option Value} {env : Env}
theorem own_keyiter {elts : List PySem.Expr} {x1} {pos : Pos} {I d T : Addr} {i n ep : Nat} {Q : Unit → Shared → Prop} (hit : s.heap.IsKeyIter I d i n ep) (hQ : Q () s) :
    wpAny (model prog w) A (letOwnedTupleGo (.Tuple elts x1 pos) (.ref I) (.ref T)) Q E s := by
  obtain ⟨o, ho, hc, hd⟩ := hit
  unfold letOwnedTupleGo
  refine wpAny_bind (wpAny_load ho ?_)
  rw [hc, hd]
  show wpAny _ A (if (["enumerate", "zip", "dict_itemiterator", "dict_reverseitemiterator", "odict_iterator", "itertools.zip_longest", "itertools.pairwise"].contains "dict_keyiterator" &&
      (#[.ref d, .int i 0, .int n 0, .int ep 0] : Array Value)[0]? == some (rawInt T)) = true then _ else _) Q E s
  rw [if_neg (by
    intro h
    rw [show (["enumerate", "zip", "dict_itemiterator", "dict_reverseitemiterator", "odict_iterator", "itertools.zip_longest", "itertools.pairwise"].contains "dict_keyiterator") = false from by decide, Bool.false_and] at h
    cases h)]
  exact wpAny_pure hQ
/-- a dict in the ledger, its entries -/
def RawIn (d : Addr) (es : Array DictEntry) (ep : Nat) (n : List (Addr × Obj)) : Prop := ∃ o, (d, o) ∈ n ∧ o.ExactDict ∧ o.data = .dict es ep
theorem RawIn.at {h : Heap} {d : Addr} {es : Array DictEntry} {ep : Nat} {n : List (Addr × Obj)} (x : RawIn d es ep n) (N : News h₀ L h n) : RawAt h d es ep := let ⟨o, hm, r⟩ := x; ⟨o, (N _ hm).1, r⟩
theorem block_D {elt iter : PySem.Expr} {x x₂ : Str} {px px₂ tp : Pos} {tk} {scope : Scope} {cl : List (Str × Addr)} {pos : Pos} {s₂ : Shared} {I d : Addr} {es : Array DictEntry} {ep : Nat} {news : List (Addr × Obj)}
    {Fin : List Value → List (Addr × Obj) → Prop} {RR : Value → Addr → Result → Shared → Prop}
    (hsz : es.size ≤ sizeLine) (hh : A.handled = none) (hId : d ≠ I) (hIlt : I < s₂.heap.objs.size)
    (hcell : ∀ y ∈ scope.names, y.2 ≠ .cell) (hkind : scope.kind = .function) (hx : scope.names.lookup x = some .local) (hx₂ : scope.names.lookup x₂ = some .local) (hxx : x ≠ x₂) (hst : s₂.heap.IsKeyIter I d 0 es.size ep)
    (F : Fr h₀ L s₂.heap m) (N : News h₀ L s₂.heap news) (hIL : L ≠ I) (hI₀ : h₀.get? I = none) (off : ∀ p ∈ news, p.1 ≠ I) (hS : RawIn d es ep news)
    (R : CompRestP prog w A h₀ L m env elt x x₂ scope cl s₂ (RawIn d es ep) (fun i v => ∃ e, es[i]? = some e ∧ v = e.key) Fin es.size 0 [] news)
    (hRR : ∀ D C h tk m' ys news', Fr h₀ L h m → News h₀ L h ((D, lst ys) :: news') → Off1 D news' → h.Ns C m' → h₀.get? C = none → h₀.get? D = none → C ≠ L → D ≠ L → C ≠ D → (∀ p ∈ news', p.1 ≠ C) → Fin ys news' → RR (.ref D) C (.ok .next) { s₂ with heap := h, toks := tk }) :
    wpAny (model prog w) A (newList []) (fun acc s₃ => wpAny (model prog w) A (newFunctionEnv scope env.globals cl [] env.qual none .none (some env)) (fun cenv s₄ =>
      codeAny (model prog w) A (.compStart (.ListComp elt [⟨.Tuple [.Name x px, .Name x₂ px₂] tk tp, iter, [], 0⟩] scope pos) 0 (.ref I) acc { cenv with scope := relabel scope env }) (RR acc cenv.locals) s₄) E s₃) E s₂ := by
  have Wk := raw_walks (prog := prog) (w := w) hh I d hId es ep
  refine wpAny_newObj_type (wpAny_newFunctionEnv hcell (by intro y hy; simp at hy) (fun h₁ hns₁ hsb₁ => ?_) hkind)
  dsimp only at hns₁ hsb₁ ⊢
  generalize hH2 : s₂.heap.push { cls := .type "list", dict := none, data := .seq ([] : List Value).toArray } = H2 at hns₁ hsb₁ ⊢
  have hC : H2.objs.size = s₂.heap.objs.size + 1 := by rw [← hH2, Heap.size_push]
  have hDC : s₂.heap.objs.size ≠ H2.objs.size := by rw [hC]; exact Nat.ne_of_lt (Nat.lt_succ_self _)
  have below : ∀ b, b < s₂.heap.objs.size → b ≠ H2.objs.size ∧ b ≠ s₂.heap.objs.size := fun b hb => ⟨by rw [hC]; exact Nat.ne_of_lt (Nat.lt_succ_of_lt hb), Nat.ne_of_lt hb⟩
  have old : ∀ b o, s₂.heap.get? b = some o → h₁.get? b = some o := fun b o e => hsb₁.extBut b o (below b (Heap.lt_size e)).1 (Heap.get?_push_of_some _ (hH2 ▸ Heap.get?_push_of_some _ e))
  have hacc : h₁.get? s₂.heap.objs.size = some (lst []) := hsb₁.extBut _ _ hDC (Heap.get?_push_of_some _ (hH2 ▸ Heap.get?_push_size _ rfl))
  have hst₁ : h₁.IsKeyIter I d 0 es.size ep := hst.at fun o e => old _ o e
  have fresh : ∀ a, s₂.heap.objs.size ≤ a → s₂.heap.get? a = none := fun a ha => by
    cases e : s₂.heap.get? a with
    | none => rfl
    | some o' => exact absurd (Heap.lt_size e) (Nat.not_lt.mpr ha)
  have fresh₀ : ∀ a, s₂.heap.objs.size ≤ a → h₀.get? a = none := fun a ha => by
    cases e : h₀.get? a with
    | none => rfl
    | some o' => have := F.keep a o' e; rw [fresh a ha] at this; cases this
  have hD₀ : h₀.get? s₂.heap.objs.size = none := fresh₀ _ (Nat.le_refl _)
  have hC₀ : h₀.get? H2.objs.size = none := fresh₀ _ (by rw [hC]; exact Nat.le_succ _)
  have hLlt : L < s₂.heap.objs.size := F.ns.lt
  have hDL : s₂.heap.objs.size ≠ L := Ne.symm (below L hLlt).2
  have hCL : H2.objs.size ≠ L := Ne.symm (below L hLlt).1
  have hCI : I ≠ H2.objs.size := (below I hIlt).1
  have hDI : I ≠ s₂.heap.objs.size := (below I hIlt).2
  have off₀ : Off3 I H2.objs.size s₂.heap.objs.size news := Off3.of fun p hp => ⟨off p hp, (below _ (Heap.lt_size (N p hp).1)).1, (below _ (Heap.lt_size (N p hp).1)).2⟩
  have loop : ∀ s₃ : Shared, s₃ = { s₂ with heap := h₁, toks := s₂.toks + ([] : List (Str × Value)).length } →
      codeAny (model prog w) A (.compLoop (.ListComp elt [⟨.Tuple [.Name x px, .Name x₂ px₂] tk tp, iter, [], 0⟩] scope pos) 0 (.ref I) (.ref s₂.heap.objs.size) (compEnvC scope cl H2.objs.size env))
        (RR (.ref s₂.heap.objs.size) H2.objs.size) s₃ := by
    rintro s₃ rfl
    refine codeAny_compLoop_pair
      (fun k s' => ∃ h' tk i ys m' news', s' = { s₂ with heap := h', toks := tk } ∧ i ≤ es.size ∧ k = es.size + 1 - i ∧ ys.length = i ∧ h'.IsKeyIter I d i es.size ep ∧ Fr h₀ L h' m ∧ h'.Ns H2.objs.size m' ∧ News h₀ L h' ((s₂.heap.objs.size, lst ys) :: news') ∧
        Off3 I H2.objs.size s₂.heap.objs.size news' ∧ RawIn d es ep news' ∧ CompRestP prog w A h₀ L m env elt x x₂ scope cl s₂ (RawIn d es ep) (fun i v => ∃ e, es[i]? = some e ∧ v = e.key) Fin (es.size - i) i ys news') ?_ (es.size + 1)
      ⟨h₁, _, 0, [], _, news, rfl, Nat.zero_le _, rfl, rfl, hst₁, F.keeps old, hns₁, fun p hp => ?_, off₀, hS, R⟩
    · rintro k s' ⟨h', tk, i, ys, m', news', rfl, hi, rfl, hyl, hst', F', hn', N', off', hS', R'⟩
      have off3 := off'.mem
      have raw' : RawAt h' d es ep := hS'.at fun p hp => N' p (.tail _ hp)
      by_cases hlt : i < es.size
      · obtain ⟨j, hj⟩ : ∃ j, es.size - i = j + 1 := ⟨es.size - i - 1, by omega⟩
        rw [hj] at R'
        refine Wk.item i _ _ _ hlt ⟨hst', raw'⟩ fun v h₂ tk₂ hPv hst₂ hk₂ => ?_
        obtain ⟨t, ot, v₁, v₂, nt, rfl, hmt, hct, hdt, R''⟩ := R' v hPv
        have N₂ : News h₀ L h₂ ((s₂.heap.objs.size, lst ys) :: news') := news_but N' hk₂ fun p hp => by
          rcases List.mem_cons.mp hp with rfl | hp
          · exact Ne.symm hDI
          · exact (off3 p hp).1
        have ht : IsTup h₂ t #[v₁, v₂] := ⟨ot, (N₂ _ (List.mem_cons_of_mem _ hmt)).1, hct, nt, hdt⟩
        refine own_keyiter hst₂.1 ?_
        refine assign_Tuple_tuple hh ht rfl rfl fun h₅ he => ?_
        have he' : ∀ b o, h₂.get? b = some o → h₅.get? b = some o := fun b o e => he b o (Nat.ne_of_lt (Heap.lt_size e)) e
        refine assignInOrder_cons (wpAny_assign_Name (wpAny_storeName_local (lookup_relabel_local hx) ((hn'.at' fun o e => hk₂ _ o (by simpa using Ne.symm hCI) e).at' fun o e => he' _ o e) (fun h₆ hn₆ hs₆ => ?_) (by simp [compEnvC, relabel, hkind])))
        refine assignInOrder_cons (wpAny_assign_Name (wpAny_storeName_local (lookup_relabel_local hx₂) hn₆ (fun h₃ hn₃ hs₃ => ?_) (by simp [compEnvC, relabel, hkind])))
        refine assignInOrder_nil ?_
        have old3 : ∀ b o, b ≠ H2.objs.size → h₂.get? b = some o → h₃.get? b = some o := fun b o hb e => hs₃.extBut b o hb (hs₆.extBut b o hb (he' b o e))
        have hst₃ : h₃.IsKeyIter I d (i + 1) es.size ep := hst₂.1.at fun o e => old3 I o hCI e
        obtain ⟨oI, heI, hoI⟩ := id hst₃
        obtain ⟨oC, heC, hoC⟩ := ns_obj hn₃
        have F₃ : Fr h₀ L h₃ m := (((fr_but F' hk₂ hIL hI₀).keeps he').change hs₆ hCL hC₀).change hs₃ hCL hC₀
        have N₃ : News h₀ L h₃ ((I, oI) :: (H2.objs.size, oC) :: (s₂.heap.objs.size, lst ys) :: news') := fun p hp => by
          rcases List.mem_cons.mp hp with rfl | hp
          · exact ⟨heI, Ne.symm hIL, hI₀⟩
          · rcases List.mem_cons.mp hp with rfl | hp
            · exact ⟨heC, hCL, hC₀⟩
            · have z := N₂ p hp
              refine ⟨old3 _ _ ?_ z.1, z.2⟩
              rcases List.mem_cons.mp hp with rfl | hp
              · exact hDC
              · exact (off3 p hp).2.1
        refine wpAny_mono (R'' I oI H2.objs.size oC s₂.heap.objs.size _ h₃ _ _ hoC (by simp [hxx]) (by simp) F₃ N₃ off' ⟨hCI, hDI, Ne.symm hDC⟩) (fun y s₄ h₄ => ?_) fun _ _ e => e
        obtain ⟨h₄, tk₄, news₄, rfl, F₄, N₄, off₄, hS₄, R₄⟩ := h₄
        have zI := (N₄ (I, oI) List.mem_cons_self).1
        have zC := (N₄ (H2.objs.size, oC) (List.mem_cons_of_mem _ List.mem_cons_self)).1
        have zD := (N₄ (s₂.heap.objs.size, lst ys) (List.mem_cons_of_mem _ (List.mem_cons_of_mem _ List.mem_cons_self))).1
        have N₄' : News h₀ L h₄ news₄ := fun p hp => N₄ p (List.mem_cons_of_mem _ (List.mem_cons_of_mem _ (List.mem_cons_of_mem _ hp)))
        refine append_at (hsz := by show ys.toArray.size ≤ sizeLine; rw [List.size_toArray, hyl]; exact Nat.le_trans hi hsz) zD fun h₅ hs₅ hD₅ => ?_
        have off4 := off₄.mem
        refine ⟨es.size + 1 - (i + 1), by omega, h₅, tk₄, i + 1, ys ++ [y], _, news₄, rfl, hlt, rfl, by rw [List.length_append, List.length_singleton, hyl], ⟨oI, hs₅.extBut _ _ hDI zI, hoI⟩, F₄.change hs₅ hDL hD₀,
          (hoC.ns zC).sameBut hs₅ (Ne.symm hDC), fun p hp => ?_, off₄, hS₄, ?_⟩
        · rcases List.mem_cons.mp hp with rfl | hp
          · exact ⟨hD₅.trans (congrArg some (lst_snoc ys y)), hDL, hD₀⟩
          · exact ⟨hs₅.extBut _ _ (off4 p hp).2.2 (N₄' p hp).1, (N₄' p hp).2⟩
        · rw [show es.size - (i + 1) = j by omega]
          exact R₄
      · obtain rfl : i = es.size := Nat.le_antisymm hi (Nat.not_lt.mp hlt)
        rw [Nat.sub_self] at R'
        refine Wk.done _ _ _ ⟨hst', raw'⟩ fun h₂ tk₂ hk₂ => ?_
        exact hRR _ _ h₂ tk₂ _ ys news' (fr_but F' hk₂ hIL hI₀) (news_but N' hk₂ fun p hp => by
          rcases List.mem_cons.mp hp with rfl | hp
          · exact Ne.symm hDI
          · exact (off3 p hp).1) off'.one (hn'.at' fun o e => hk₂ _ o (by simpa using Ne.symm hCI) e) hC₀ hD₀ hCL hDL (Ne.symm hDC) (fun p hp => (off3 p hp).2.1) R'
    · rcases List.mem_cons.mp hp with rfl | hp
      · exact ⟨hacc, hDL, hD₀⟩
      · exact ⟨old _ _ (N p hp).1, (N p hp).2⟩
  exact codeAny_compStart_list (loop _ rfl) (wpAny_pyIter_keyiter hst₁ (loop _ rfl))
/-- the iterable is a dict of the ledger -/
def SrcD (prog : Program) (w : World) (A : Around) (h₀ : Heap) (L : Addr) (m : Str → Option Value) (env : Env) (elt : PySem.Expr) (x x₂ : Str) (scope : Scope) (cl : List (Str × Addr)) (Fin : Shared → List Value → List (Addr × Obj) → Prop) (xv : Value) (s₁ : Shared) : Prop :=
  ∃ d es ep news, xv = .ref d ∧ (d == sysModules) = false ∧ A.handled = none ∧ Fr h₀ L s₁.heap m ∧ News h₀ L s₁.heap news ∧ RawIn d es ep news ∧ es.size ≤ sizeLine ∧
    ∀ s₂ : Shared, (∃ h, s₂ = { s₁ with heap := h }) → CompRestP prog w A h₀ L m env elt x x₂ scope cl s₂ (RawIn d es ep) (fun i v => ∃ e, es[i]? = some e ∧ v = e.key) (Fin s₂) es.size 0 [] news
theorem ListComp_D {elt iter : PySem.Expr} {x x₂ : Str} {px px₂ tp : Pos} {tk} {scope : Scope} {cl : List (Str × Addr)} {pos : Pos} {Q : Value → Shared → Prop} (F₀ : Fr h₀ L s.heap m)
    (hclos : closureFor scope env = pure cl) (hcell : ∀ y ∈ scope.names, y.2 ≠ .cell) (hkind : scope.kind = .function)
    (hnames : ∀ y ∈ scope.names, y.2 = .local → scope.names.lookup y.1 = some .local) (hx : scope.names.lookup x = some .local) (hx₂ : scope.names.lookup x₂ = some .local) (hxx : x ≠ x₂)
    (h : wpAny (model prog w) A (eval iter env) (SrcD prog w A h₀ L m env elt x x₂ scope cl (fun s₂ => FinE h₀ L m s₂ Q)) E s)
    (hs : ∀ x, foldedSetIterable iter env x = pure x := by intro _; rfl) :
    wpAny (model prog w) A (eval (.ListComp elt [⟨.Tuple [.Name x px, .Name x₂ px₂] tk tp, iter, [], 0⟩] scope pos) env) Q E s := by
  rw [eval_ListComp]
  refine wpAny_comprehension_free (use := none) rfl hs hclos hkind hnames (wpAny_mono h (fun xv s₁ h₁ => ?_) fun _ _ e => e)
  obtain ⟨d, es, ep, news, rfl, lo, hh, F, N, S, hsz, R⟩ := h₁
  have hr := S.at N
  refine raw_iter lo hr ?_
  have up : ∀ b o, s₁.heap.get? b = some o → (s₁.heap.push { cls := .type "dict_keyiterator", data := .fields #[.ref d, .int 0 0, .int es.size 0, .int ep 0] }).get? b = some o := fun b o e => Heap.get?_push_of_some _ e
  refine block_D hsz hh (I := s₁.heap.objs.size) (Nat.ne_of_lt hr.lt) (by simp) hcell hkind hx hx₂ hxx ⟨_, Heap.get?_push_size _ rfl, rfl, rfl⟩
    (F.keeps up) (N.grown up) (Nat.ne_of_lt F.ns.lt) (next_is_new F) (fun p hp => Nat.ne_of_lt (Heap.lt_size (N p hp).1)) S (R _ ⟨_, rfl⟩) ?_
  intro D C h tk m' ys news' F' N' o1 hn hC₀ hD₀ hCL hDL hCD offC fin
  refine ⟨m', hn, fun h'' hs'' => fin D h'' tk (F'.change hs'' hCL hC₀) (fun p hp => ?_) o1⟩
  refine ⟨hs''.extBut _ _ ?_ (N' p hp).1, (N' p hp).2⟩
  rcases List.mem_cons.mp hp with rfl | hp
  · exact Ne.symm hCD
  · exact offC p hp
end
end
section
open LCg LCp
set_option maxRecDepth 100000
set_option maxHeartbeats 2000000
section
variable {prog : Program} {w : World} {A : Around} {E : Value → Shared → Prop} {s : Shared} {h₀ : Heap} {L : Addr} {m : Str → Option Value} {env : Env}
theorem CompEnd.mono {s₁ : Shared} {I C D : Addr} {oI oC oD : Obj} {S : List (Addr × Obj) → Prop} {r r' : Value → List (Addr × Obj) → Prop} {y : Value} {s₂ : Shared} (h : CompEnd h₀ L m s₁ I oI C oC D oD S r y s₂) (f : ∀ y n, r y n → r' y n) :
    CompEnd h₀ L m s₁ I oI C oC D oD S r' y s₂ := by
  obtain ⟨h', tk, n', e, F, N, o, hS, hr⟩ := h
  exact ⟨h', tk, n', e, F, N, o, hS, f _ _ hr⟩
/-- a comprehension by an invariant over its turns -/
theorem rest_U {elt : PySem.Expr} {x : Str} {scope : Scope} {cl : List (Str × Addr)} {S : List (Addr × Obj) → Prop} {P : Nat → Value → Prop} {Fin : List Value → List (Addr × Obj) → Prop} {n : Nat} {news : List (Addr × Obj)}
    (J : Nat → List Value → List (Addr × Obj) → Prop) (h0 : J 0 [] news)
    (step : ∀ i v I oI C oC D m₂ h tk (E' : Value → Shared → Prop) ys n₁, i < n → P i v → J i ys n₁ → NsObj oC m₂ → m₂ x = some v → Fr h₀ L h m → News h₀ L h ((I, oI) :: (C, oC) :: (D, lst ys) :: n₁) → Off3 I C D n₁ → ((@Ne Nat I C) ∧ (@Ne Nat I D) ∧ (@Ne Nat C D)) →
      wpAny (model prog w) A (eval elt (compEnvC scope cl C env)) (CompEnd h₀ L m { s with heap := h, toks := tk } I oI C oC D (lst ys) S (fun y n' => J (i + 1) (ys ++ [y]) n')) E' { s with heap := h, toks := tk })
    (done : ∀ ys n₁, J n ys n₁ → Fin ys n₁) : CompRest prog w A h₀ L m env elt x scope cl s S P Fin n 0 [] news := by
  have gen : ∀ k i ys n₁, k + i = n → J i ys n₁ → CompRest prog w A h₀ L m env elt x scope cl s S P Fin k i ys n₁ := by
    intro k
    induction k with
    | zero => intro i ys n₁ e hj; obtain rfl : i = n := by omega
              exact done _ _ hj
    | succ k ih =>
      intro i ys n₁ e hj v I oI C oC D m₂ h tk E' hP hC hx F N off ne
      exact wpAny_mono (step i v I oI C oC D m₂ h tk E' ys n₁ (by omega) hP hj hC hx F N off ne) (fun y s₂ q => CompEnd.mono q fun y n' q => ih (i + 1) _ _ (by omega) q) fun _ _ e => e
  exact gen n 0 [] news (by omega) h0
theorem rest_P {elt : PySem.Expr} {x x₂ : Str} {scope : Scope} {cl : List (Str × Addr)} {S : List (Addr × Obj) → Prop} {P : Nat → Value → Prop} {Fin : List Value → List (Addr × Obj) → Prop} {n : Nat} {news : List (Addr × Obj)}
    (J : Nat → List Value → List (Addr × Obj) → Prop) (h0 : J 0 [] news)
    (step : ∀ i v ys n₁, i < n → P i v → J i ys n₁ → ∃ (t : Addr) (ot : Obj) (v₁ v₂ : Value) (nt : Nat), v = .ref t ∧ (t, ot) ∈ n₁ ∧ ot.cls = .type "tuple" ∧ ot.data = .seq #[v₁, v₂] nt ∧
      ∀ I oI C oC D m₂ h tk (E' : Value → Shared → Prop), NsObj oC m₂ → m₂ x = some v₁ → m₂ x₂ = some v₂ → Fr h₀ L h m → News h₀ L h ((I, oI) :: (C, oC) :: (D, lst ys) :: n₁) → Off3 I C D n₁ → ((@Ne Nat I C) ∧ (@Ne Nat I D) ∧ (@Ne Nat C D)) →
      wpAny (model prog w) A (eval elt (compEnvC scope cl C env)) (CompEnd h₀ L m { s with heap := h, toks := tk } I oI C oC D (lst ys) S (fun y n' => J (i + 1) (ys ++ [y]) n')) E' { s with heap := h, toks := tk })
    (done : ∀ ys n₁, J n ys n₁ → Fin ys n₁) : CompRestP prog w A h₀ L m env elt x x₂ scope cl s S P Fin n 0 [] news := by
  have gen : ∀ k i ys n₁, k + i = n → J i ys n₁ → CompRestP prog w A h₀ L m env elt x x₂ scope cl s S P Fin k i ys n₁ := by
    intro k
    induction k with
    | zero => intro i ys n₁ e hj; obtain rfl : i = n := by omega
              exact done _ _ hj
    | succ k ih =>
      intro i ys n₁ e hj v hP
      obtain ⟨t, ot, v₁, v₂, nt, h1, h2, h3, h4, h5⟩ := step i v ys n₁ (by omega) hP hj
      refine ⟨t, ot, v₁, v₂, nt, h1, h2, h3, h4, fun I oI C oC D m₂ h tk E' hC hx hx2 F N off ne => ?_⟩
      exact wpAny_mono (h5 I oI C oC D m₂ h tk E' hC hx hx2 F N off ne) (fun y s₂ q => CompEnd.mono q fun y n' q => ih (i + 1) _ _ (by omega) q) fun _ _ e => e
  exact gen n 0 [] news (by omega) h0
/-- one name over a dict -/
def SrcDU (prog : Program) (w : World) (A : Around) (h₀ : Heap) (L : Addr) (m : Str → Option Value) (env : Env) (elt : PySem.Expr) (x : Str) (scope : Scope) (cl : List (Str × Addr)) (Fin : Shared → List Value → List (Addr × Obj) → Prop) (xv : Value) (s₁ : Shared) : Prop :=
  ∃ d es ep news, xv = .ref d ∧ (d == sysModules) = false ∧ A.handled = none ∧ Fr h₀ L s₁.heap m ∧ News h₀ L s₁.heap news ∧ RawIn d es ep news ∧ es.size ≤ sizeLine ∧
    ∀ s₂ : Shared, (∃ h, s₂ = { s₁ with heap := h }) → CompRest prog w A h₀ L m env elt x scope cl s₂ (RawIn d es ep) (fun i v => ∃ e, es[i]? = some e ∧ v = e.key) (Fin s₂) es.size 0 [] news
theorem ListComp_DU {elt iter : PySem.Expr} {x : Str} {px : Pos} {scope : Scope} {cl : List (Str × Addr)} {pos : Pos} {Q : Value → Shared → Prop} (_ : Fr h₀ L s.heap m)
    (hclos : closureFor scope env = pure cl) (hcell : ∀ y ∈ scope.names, y.2 ≠ .cell) (hkind : scope.kind = .function)
    (hnames : ∀ y ∈ scope.names, y.2 = .local → scope.names.lookup y.1 = some .local) (hx : scope.names.lookup x = some .local)
    (h : wpAny (model prog w) A (eval iter env) (SrcDU prog w A h₀ L m env elt x scope cl (fun s₂ => FinE h₀ L m s₂ Q)) E s)
    (hs : ∀ x, foldedSetIterable iter env x = pure x := by intro _; rfl) :
    wpAny (model prog w) A (eval (.ListComp elt [⟨.Name x px, iter, [], 0⟩] scope pos) env) Q E s := by
  rw [eval_ListComp]
  refine wpAny_comprehension_free (use := none) rfl hs hclos hkind hnames (wpAny_mono h (fun xv s₁ h₁ => ?_) fun _ _ e => e)
  obtain ⟨d, es, ep, news, rfl, lo, hh, F, N, S, hsz, R⟩ := h₁
  have hr := S.at N
  have hlt := hr.lt
  refine raw_iter lo hr ?_
  have up : ∀ b o, s₁.heap.get? b = some o → (s₁.heap.push { cls := .type "dict_keyiterator", data := .fields #[.ref d, .int 0 0, .int es.size 0, .int ep 0] }).get? b = some o := fun b o e => Heap.get?_push_of_some _ e
  refine block_U (raw_walks hh s₁.heap.objs.size d (Nat.ne_of_lt hlt) es ep) hsz (fun i h st => by obtain ⟨o, e, _⟩ := st.1; exact ⟨o, e⟩)
    (fun i h h' o nw st e e' k N S => ⟨by obtain ⟨o', q, r⟩ := st.1; rw [e] at q; cases q; exact ⟨o, e', r⟩, S.at N⟩) hcell hkind hx
    ⟨⟨_, Heap.get?_push_size _ rfl, rfl, rfl⟩, hr.at fun _ e => Heap.get?_push_of_some _ e⟩ (fun b hb => ?_)
    (F.keeps up) (N.grown up) (Nat.ne_of_lt F.ns.lt) (next_is_new F) (fun p hp => Nat.ne_of_lt (Heap.lt_size (N p hp).1)) S (R _ ⟨_, rfl⟩) ?_
  · show b < (s₁.heap.push _).objs.size
    rw [Heap.size_push]
    rcases List.mem_cons.mp hb with rfl | hb
    · exact Nat.lt_succ_self _
    · rw [List.mem_singleton.mp hb]; exact Nat.lt_succ_of_lt hlt
  · intro D C h tk m' ys news' F' N' o1 hn hC₀ hD₀ hCL hDL hCD offC fin
    refine ⟨m', hn, fun h'' hs'' => fin D h'' tk (F'.change hs'' hCL hC₀) (fun p hp => ?_) o1⟩
    refine ⟨hs''.extBut _ _ ?_ (N' p hp).1, (N' p hp).2⟩
    rcases List.mem_cons.mp hp with rfl | hp
    · exact Ne.symm hCD
    · exact offC p hp
end
end
section
set_option maxRecDepth 100000
/-- a sort's questions, answered by lt -/
def KWp {α : Type} (n : Nat) (lt : Nat → Nat → Bool) : KasT α → (α → Prop) → Prop
  | .ret a, Q => Q a
  | .ask i j k, Q => i < n ∧ j < n ∧ KWp n lt (k (lt i j)) Q
structure SOrd (n : Nat) (lt : Nat → Nat → Bool) : Prop where
  irrefl : ∀ i, lt i i = false
  trans : ∀ i j k, lt i j = true → lt j k = true → lt i k = true
  total : ∀ i j, i < n → j < n → i ≠ j → lt i j = false → lt j i = true
section
variable {n : Nat} {lt : Nat → Nat → Bool} {α β : Type}
theorem KWp.bind {f : α → KasT β} {Q : β → Prop} : ∀ (t : KasT α), KWp n lt t (fun a => KWp n lt (f a) Q) → KWp n lt (t.bind f) Q
  | .ret _, h => h
  | .ask _ _ k, h => ⟨h.1, h.2.1, KWp.bind (k _) h.2.2⟩
theorem KWp.mono {P Q : α → Prop} (f : ∀ a, P a → Q a) : ∀ (t : KasT α), KWp n lt t P → KWp n lt t Q
  | .ret a, h => f a h
  | .ask _ _ k, h => ⟨h.1, h.2.1, KWp.mono f (k _) h.2.2⟩
theorem SOrd.asymm (O : SOrd n lt) {i j : Nat} (h : lt i j = true) : lt j i = false := by
  cases e : lt j i with
  | false => rfl
  | true => have := O.trans _ _ _ h e; rw [O.irrefl] at this; cases this
abbrev at' (p : Array Nat) (k : Nat) : Nat := p.getD k 0
theorem at_congr {p q : Array Nat} {i j : Nat} (h : p[i]? = q[j]?) : at' p i = at' q j := by
  simp only [at', Array.getD_eq_getD_getElem?, h]
structure PermN (n : Nat) (p : Array Nat) : Prop where
  perm : p.toList.Perm (List.range n)
namespace PermN
variable {p : Array Nat}
theorem size (P : PermN n p) : p.size = n := by
  have := P.perm.length_eq
  simpa using this
theorem below (P : PermN n p) {k : Nat} (h : k < n) : at' p k < n := by
  have hk : k < p.size := by rw [P.size]; exact h
  have : at' p k ∈ p.toList := by
    simp [at', Array.getD_eq_getD_getElem?, hk]
  simpa using P.perm.mem_iff.mp this
theorem inj (P : PermN n p) {i j : Nat} (hi : i < n) (hj : j < n) (e : at' p i = at' p j) : i = j := by
  have hi' : i < p.toList.length := by simpa [P.size] using hi
  have hj' : j < p.toList.length := by simpa [P.size] using hj
  have hnd : p.toList.Nodup := P.perm.nodup_iff.mpr List.nodup_range
  have e' : p.toList[i] = p.toList[j] := by
    simp only [at', Array.getD_eq_getD_getElem?] at e
    rw [Array.getElem?_eq_getElem (by simpa using hi'), Array.getElem?_eq_getElem (by simpa using hj')] at e
    simpa using e
  exact (List.getElem_inj hnd).mp e'
theorem bub (P : PermN n p) (k d : Nat) : PermN n (bubble p k d) := ⟨(Array.perm_iff_toList_perm.mp (bubble_perm p k d)).trans P.perm⟩
theorem rev (P : PermN n p) (i j : Nat) : PermN n (kas_rev p i j) := ⟨(Array.perm_iff_toList_perm.mp (mirror_perm p i j _)).trans P.perm⟩
theorem range (n : Nat) : PermN n (List.toArray (List.range n)) := ⟨by simp⟩
end PermN
def Up (lt : Nat → Nat → Bool) (p : Array Nat) (m : Nat) : Prop := ∀ i j, i < j → j < m → lt (at' p i) (at' p j) = true
def Down (lt : Nat → Nat → Bool) (p : Array Nat) (m : Nat) : Prop := ∀ i j, i < j → j < m → lt (at' p j) (at' p i) = true
theorem Up.one {p : Array Nat} : Up lt p 1 := fun i j h1 h2 => by omega
theorem Up.next {p : Array Nat} {m : Nat} (O : SOrd n lt) (h : Up lt p m) (h1 : 1 ≤ m) (e : lt (at' p (m - 1)) (at' p m) = true) : Up lt p (m + 1) := fun i j hij hj => by
  by_cases q : j = m
  · subst q
    by_cases q : i = j - 1
    · rw [q]; exact e
    · exact O.trans _ _ _ (h i (j - 1) (by omega) (by omega)) e
  · exact h i j hij (by omega)
theorem Down.next {p : Array Nat} {m : Nat} (O : SOrd n lt) (h : Down lt p m) (h1 : 1 ≤ m) (e : lt (at' p m) (at' p (m - 1)) = true) : Down lt p (m + 1) := fun i j hij hj => by
  by_cases q : j = m
  · subst q
    by_cases q : i = j - 1
    · rw [q]; exact e
    · exact O.trans _ _ _ e (h i (j - 1) (by omega) (by omega))
  · exact h i j hij (by omega)
theorem asc_ok (O : SOrd n lt) {p : Array Nat} (P : PermN n p) : ∀ (f m : Nat), 1 ≤ m → m + f = n → Up lt p m →
    KWp n lt (kas_asc p f m) (fun r => m ≤ r ∧ r ≤ n ∧ Up lt p r ∧ (r < n → lt (at' p r) (at' p (r - 1)) = true))
  | 0, m, h1, hf, u => ⟨Nat.le_refl _, by omega, u, fun h => by omega⟩
  | f + 1, m, h1, hf, u => by
    refine ⟨P.below (by omega), P.below (by omega), ?_⟩
    cases e : lt (at' p m) (at' p (m - 1)) with
    | true => exact ⟨Nat.le_refl _, by omega, u, fun _ => e⟩
    | false =>
      have e2 := O.total _ _ (P.below (k := m) (by omega)) (P.below (k := m - 1) (by omega)) (fun q => by have := P.inj (by omega) (by omega) q; omega) e
      refine KWp.mono (fun r h => ⟨by omega, h.2⟩) _ (asc_ok O P f (m + 1) (by omega) (by omega) (u.next O h1 e2))
theorem desc_ok (O : SOrd n lt) {p : Array Nat} (P : PermN n p) : ∀ (f m : Nat), 1 ≤ m → m + f = n → Down lt p m →
    KWp n lt (kas_desc f p m 0) (fun r => r.1 = p ∧ m ≤ r.2.1 ∧ r.2.1 ≤ n ∧ r.2.2 = 0 ∧ Down lt p r.2.1)
  | 0, m, h1, hf, u => ⟨rfl, Nat.le_refl _, by show m ≤ n; omega, rfl, u⟩
  | f + 1, m, h1, hf, u => by
    refine ⟨P.below (by omega), P.below (by omega), ?_⟩
    cases e : lt (at' p m) (at' p (m - 1)) with
    | true =>
      exact KWp.mono (fun r h => ⟨h.1, by omega, h.2.2⟩) _ (desc_ok O P f (m + 1) (by omega) (by omega) (u.next O h1 e))
    | false =>
      have e2 := O.total _ _ (P.below (k := m) (by omega)) (P.below (k := m - 1) (by omega)) (fun q => by have := P.inj (by omega) (by omega) q; omega) e
      refine ⟨P.below (by omega), P.below (by omega), ?_⟩
      show KWp n lt (if lt (at' p (m - 1)) (at' p m) = true then _ else _) _
      rw [if_pos e2]
      exact ⟨rfl, Nat.le_refl _, by show m ≤ n; omega, rfl, u⟩
theorem rev_up {p : Array Nat} (P : PermN n p) {m : Nat} (hm : m ≤ n) (d : Down lt p m) : Up lt (kas_rev p 0 m) m := fun i j hij hj => by
  have hs := P.size
  have e : ∀ k, k < m → at' (kas_rev p 0 m) k = at' p (m - 1 - k) := fun k hk => by
    have := getElem?_mirror_all (xs := p) (i := 0) (j := m) (by omega) k
    rw [if_pos (by omega)] at this
    have z := at_congr (q := p) this
    rw [show 0 + m - 1 - k = m - 1 - k by omega] at z
    exact z
  rw [e i (by omega), e j hj]
  exact d _ _ (by omega) (by omega)
theorem descPart_ok (O : SOrd n lt) {p : Array Nat} (P : PermN n p) (h2 : 2 ≤ n) (d : Down lt p 2) :
    KWp n lt (kas_descPart 1 n p) (fun r => 1 ≤ r.1 ∧ r.1 ≤ n ∧ PermN n r.2 ∧ Up lt r.2 r.1) := by
  unfold kas_descPart
  refine KWp.bind _ (KWp.mono (fun r h => ?_) _ (desc_ok O P (n - 2) 2 (by omega) (by omega) d))
  obtain ⟨r1, r2, r3⟩ := r
  obtain ⟨rfl, h3, h4, rfl, h5⟩ := h
  show KWp n lt (if 0 > 0 then _ else kas_tail3 r2 n r1) _
  rw [if_neg (by omega)]
  unfold kas_tail3
  have P' := P.rev 0 r2
  refine KWp.bind _ (KWp.mono (fun r h => ?_) _ (asc_ok O P' (n - r2) r2 (by simp only at h3; omega) (by simp only at h4; omega) (rev_up P h4 h5)))
  exact ⟨by simp only at h3 h; omega, h.2.1, P', h.2.2.1⟩
theorem count_ok (O : SOrd n lt) {p : Array Nat} (P : PermN n p) (h2 : 2 ≤ n) :
    KWp n lt (kas_count n p) (fun r => 1 ≤ r.1 ∧ r.1 ≤ n ∧ PermN n r.2 ∧ Up lt r.2 r.1) := by
  unfold kas_count
  refine KWp.bind _ (KWp.mono (fun m h => ?_) _ (asc_ok O P (n - 1) 1 (by omega) (by omega) Up.one))
  obtain ⟨h1, h3, h4, h5⟩ := h
  by_cases e : m = n
  · rw [if_pos (by simpa using e)]
    exact ⟨h1, h3, P, h4⟩
  · rw [if_neg (by simpa using e)]
    by_cases e1 : m > 1
    · rw [if_pos e1]
      refine ⟨P.below (by omega), P.below (by omega), ?_⟩
      have := h4 0 (m - 1) (by omega) (by omega)
      show KWp n lt (if lt (at' p 0) (at' p (m - 1)) = true then _ else _) _
      rw [if_pos this]
      exact ⟨h1, h3, P, h4⟩
    · rw [if_neg e1]
      obtain rfl : m = 1 := by omega
      refine descPart_ok O P h2 fun i j hij hj => ?_
      obtain rfl : i = 0 := by omega
      obtain rfl : j = 1 := by omega
      exact h5 (by omega)
theorem place_ok (O : SOrd n lt) {p : Array Nat} (P : PermN n p) {k : Nat} (hk : k < n) (u : Up lt p k) : ∀ (f l r : Nat), l ≤ r → r ≤ k → r - l ≤ f →
    (∀ i, i < l → lt (at' p i) (at' p k) = true) → (∀ i, r ≤ i → i < k → lt (at' p k) (at' p i) = true) →
    KWp n lt (kas_place p k f l r) (fun m => m ≤ k ∧ (∀ i, i < m → lt (at' p i) (at' p k) = true) ∧ (∀ i, m ≤ i → i < k → lt (at' p k) (at' p i) = true))
  | 0, l, r, h1, h2, h3, ha, hb => ⟨by omega, ha, fun i h h' => hb i (by omega) h'⟩
  | f + 1, l, r, h1, h2, h3, ha, hb => by
    unfold kas_place
    by_cases e : l ≥ r
    · rw [if_pos e]
      exact ⟨by omega, ha, fun i h h' => hb i (by omega) h'⟩
    · rw [if_neg e]
      refine ⟨P.below (by omega), P.below (by omega), ?_⟩
      cases c : lt (at' p k) (at' p ((l + r) / 2)) with
      | true =>
        exact place_ok O P hk u f l ((l + r) / 2) (by omega) (by omega) (by omega) ha fun i h h' => by
          by_cases q : i = (l + r) / 2
          · rw [q]; exact c
          · exact O.trans _ _ _ c (u _ _ (by omega) h')
      | false =>
        have e2 := O.total _ _ (P.below (k := k) (by omega)) (P.below (k := (l + r) / 2) (by omega)) (fun q => by have := P.inj (by omega) (by omega) q; omega) c
        exact place_ok O P hk u f ((l + r) / 2 + 1) r (by omega) (by omega) (by omega) (fun i h => by
          by_cases q : i = (l + r) / 2
          · rw [q]; exact e2
          · exact O.trans _ _ _ (u _ _ (by omega) (by omega)) e2) hb
theorem bub_up {p : Array Nat} (P : PermN n p) {k m : Nat} (hk : k < n) (hm : m ≤ k) (u : Up lt p k) (ha : ∀ i, i < m → lt (at' p i) (at' p k) = true) (hb : ∀ i, m ≤ i → i < k → lt (at' p k) (at' p i) = true) : Up lt (bubble p k (k - m)) (k + 1) := fun i j hij hj => by
  have hs := P.size
  have g := fun x => getElem?_bubble (xs := p) (src := k) (by omega) (k - m) (by omega) x
  have e1 : at' (bubble p k (k - m)) m = at' p k := by
    have := g m; rw [if_pos (by omega)] at this; exact at_congr this
  have e2 : ∀ x, m < x → x ≤ k → at' (bubble p k (k - m)) x = at' p (x - 1) := fun x h1 h2 => by
    have := g x; rw [if_neg (by omega), if_pos (by omega)] at this; exact at_congr this
  have e3 : ∀ x, x < m → at' (bubble p k (k - m)) x = at' p x := fun x h1 => by
    have := g x; rw [if_neg (by omega), if_neg (by omega)] at this; exact at_congr this
  by_cases a : i < m
  · rw [e3 i a]
    by_cases b : j < m
    · rw [e3 j b]; exact u _ _ hij (by omega)
    · by_cases c : j = m
      · rw [c, e1]; exact ha i a
      · rw [e2 j (by omega) (by omega)]; exact u _ _ (by omega) (by omega)
  · by_cases b : i = m
    · rw [b, e1, e2 j (by omega) (by omega)]; exact hb _ (by omega) (by omega)
    · rw [e2 i (by omega) (by omega), e2 j (by omega) (by omega)]; exact u _ _ (by omega) (by omega)
theorem bin_ok (O : SOrd n lt) : ∀ (f : Nat) (p : Array Nat) (k : Nat), PermN n p → k + f = n → 1 ≤ k → Up lt p k → KWp n lt (kas_bin f p k) (fun r => PermN n r ∧ Up lt r n)
  | 0, p, k, P, hf, _, u => by
    obtain rfl : k = n := by omega
    exact ⟨P, u⟩
  | f + 1, p, k, P, hf, h1, u => by
    unfold kas_bin
    refine KWp.bind _ (KWp.mono (fun m h => ?_) _ (place_ok O P (by omega) u k 0 k (by omega) (by omega) (by omega) (fun i h => by omega) (fun i h h' => by omega)))
    exact bin_ok O f _ (k + 1) (P.bub _ _) (by omega) (by omega) (bub_up P (by omega) h.1 u h.2.1 h.2.2)
theorem sort_ok (O : SOrd n lt) (h2 : 2 ≤ n) : KWp n lt (kas_sort n) (fun r => PermN n r ∧ Up lt r n) := by
  unfold kas_sort
  refine KWp.bind _ (KWp.mono (fun r h => ?_) _ (count_ok O (PermN.range n) h2))
  obtain ⟨h1, h3, h4, h5⟩ := h
  by_cases e : r.1 < n
  · rw [if_pos e]
    have : max r.1 1 = r.1 := by omega
    rw [this]
    exact bin_ok O _ _ _ h4 (by omega) h1 h5
  · rw [if_neg e]
    have : r.1 = n := by omega
    rw [this] at h5
    exact ⟨h4, h5⟩
end
theorem KWp.wp {α : Type} {n : Nat} {lt : Nat → Nat → Bool} {cmp : Nat → Nat → (Bool → Shared → Prop) → Shared → Prop} {Q : α → Shared → Prop} {P : α → Prop} (I : Shared → Prop)
    (hc : ∀ i j C s, i < n → j < n → I s → (∀ s', I s' → C (lt i j) s') → cmp i j C s) (hq : ∀ a s, P a → I s → Q a s) : ∀ (t : KasT α) (s : Shared), KWp n lt t P → I s → t.kasWp cmp Q s
  | .ret a, s, h, i => hq a s h i
  | .ask i j k, s, h, hi => hc i j _ s h.1 h.2.1 hi fun s' hi' => KWp.wp I hc hq (k _) s' h.2.2 hi'
end
section
set_option maxRecDepth 100000
set_option maxHeartbeats 2000000
def lex (a b : Nat × Nat) : Bool := if a.1 = b.1 then decide (a.2 < b.2) else decide (a.1 < b.1)
theorem lex_irrefl (a : Nat × Nat) : lex a a = false := by simp [lex]
theorem lex_trans (a b c : Nat × Nat) (h1 : lex a b = true) (h2 : lex b c = true) : lex a c = true := by
  unfold lex at *
  split at h1 <;> split at h2 <;> split <;> simp only [decide_eq_true_eq] at * <;> omega
theorem lex_total (a b : Nat × Nat) (h : a ≠ b) (h1 : lex a b = false) : lex b a = true := by
  unfold lex at *
  have : ¬ (a.1 = b.1 ∧ a.2 = b.2) := fun q => h (Prod.ext q.1 q.2)
  split at h1 <;> split <;> simp only [decide_eq_false_iff_not, decide_eq_true_eq] at * <;> omega
theorem lex_unique : ∀ {xs ys : List (Nat × Nat)}, xs.Pairwise (fun a b => lex a b = true) → ys.Pairwise (fun a b => lex a b = true) → (∀ q, q ∈ xs ↔ q ∈ ys) → xs = ys
  | [], [], _, _, _ => rfl
  | [], y :: _, _, _, h => absurd ((h y).mpr (.head _)) (by simp)
  | x :: _, [], _, _, h => absurd ((h x).mp (.head _)) (by simp)
  | x :: xs, y :: ys, h1, h2, h => by
    rw [List.pairwise_cons] at h1 h2
    have asy : ∀ a b, lex a b = true → lex b a = true → False := fun a b p q => by have := lex_trans _ _ _ p q; rw [lex_irrefl] at this; cases this
    have e : x = y := by
      rcases List.mem_cons.mp ((h x).mp (.head _)) with e | hx
      · exact e
      · rcases List.mem_cons.mp ((h y).mpr (.head _)) with e | hy
        · exact e.symm
        · exact (asy _ _ (h1.1 _ hy) (h2.1 _ hx)).elim
    subst e
    have : xs = ys := lex_unique h1.2 h2.2 fun q => by
      have hq := h q
      constructor
      · intro hm
        rcases List.mem_cons.mp (hq.mp (.tail _ hm)) with e | hm'
        · rw [e] at hm; have := h1.1 _ hm; rw [lex_irrefl] at this; cases this
        · exact hm'
      · intro hm
        rcases List.mem_cons.mp (hq.mpr (.tail _ hm)) with e | hm'
        · rw [e] at hm; have := h2.1 _ hm; rw [lex_irrefl] at this; cases this
        · exact hm'
    rw [this]
namespace All2
theorem pick {α β : Type} {R : α → β → Prop} {as : List α} {bs : List β} (h : All2 R as bs) {a : α} {b : β} : ∀ {is : List Nat}, (∀ i ∈ is, i < bs.length) → All2 R (is.map fun i => as.getD i a) (is.map fun i => bs.getD i b)
  | [], _ => .nil
  | i :: is, hi => by
    refine .cons ?_ (pick h fun j hj => hi j (.tail _ hj))
    have hb := hi i (.head _)
    obtain ⟨x, hx, r⟩ := h.get (List.getElem?_eq_getElem hb)
    show R (as.getD i a) (bs.getD i b)
    rw [List.getD_eq_getElem?_getD, List.getD_eq_getElem?_getD, hx, List.getElem?_eq_getElem hb]
    exact r
end All2
section
variable {prog : Program} {w : World} {A : Around} {E : Value → Shared → Prop} {s : Shared} {h₀ : Heap} {L D : Addr} {m : Str → Option Value} {n : List (Addr × Obj)} {c : Nat} {us : List Value} {W : List (Nat × Nat)}
theorem w_firsts {h : Heap} (N : News h₀ L h n) (hA : All2 (WIn n) us W) : ∃ fs, KatTups h us fs ∧ fs.length = W.length ∧ ∀ v ∈ fs, ∃ z t, v = .int z t := by
  induction hA with
  | nil => exact ⟨[], trivial, rfl, by simp⟩
  | cons r _ ih =>
    obtain ⟨fs, h1, h2, h3⟩ := ih
    cases r with
    | mk p =>
      cases p with
      | @mk t t' k p h hm =>
        refine ⟨.int (p : Int) t :: fs, KatTups.cons (N _ hm).1 rfl rfl rfl h1, by simp [h2], fun v hv => ?_⟩
        rcases List.mem_cons.mp hv with rfl | hv
        · exact ⟨_, _, rfl⟩
        · exact h3 v hv
theorem w_ask {a b : Addr} {q r : Nat × Nat} {Q : Bool → Shared → Prop} (N : News h₀ L s.heap n) (ha : PinT n a q) (hb : PinT n b r) (h : Q (lex q r) s) :
    wpAny (model prog w) A (keyLt' (tuples' true) (.ref a) (.ref b)) Q E s := by
  cases ha with
  | @mk t1 t2 k1 p1 h1 ha =>
    cases hb with
    | @mk t3 t4 k2 p2 h2 hb =>
      refine kat_lt (N _ ha).1 rfl (N _ hb).1 rfl (kat_cons (wpAny_eqBool_int ?_))
      by_cases e : p1 = p2
      · subst e
        rw [show ((p1 : Int) == (p1 : Int)) = true by simp]
        refine kat_yes (kat_cons (wpAny_eqBool_int ?_))
        by_cases e2 : h1 = h2
        · subst e2
          rw [show ((h1 : Int) == (h1 : Int)) = true by simp]
          refine kat_yes (kat_nil ?_)
          simpa [lex] using h
        · rw [show ((h1 : Int) == (h2 : Int)) = false from beq_eq_false_iff_ne.mpr (by omega)]
          refine kat_no ?_
          show wpAny _ _ (oneLt' false _ _) _ _ _
          refine kat_one _ _ (lt_int ?_)
          show Q (decide ((h1 : Int) < (h2 : Int))) s
          have e3 : lex (p1, h1) (p1, h2) = decide ((h1 : Int) < (h2 : Int)) := by simp [lex]
          rw [e3] at h; exact h
      · rw [show ((p1 : Int) == (p2 : Int)) = false from beq_eq_false_iff_ne.mpr (by omega)]
        refine kat_no ?_
        show wpAny _ _ (oneLt' true _ _) _ _ _
        refine oneLt_int ?_
        have e3 : lex (p1, h1) (p2, h2) = decide ((p1 : Int) < (p2 : Int)) := by simp [lex, e]
        rw [e3] at h; exact h
theorem w_order (hn : W.Nodup) : SOrd W.length (fun i j => lex (W.getD i (0, 0)) (W.getD j (0, 0))) where
  irrefl _ := lex_irrefl _
  trans _ _ _ := lex_trans _ _ _
  total i j hi hj hne h1 := lex_total _ _ (fun e => by
    rw [List.getD_eq_getElem?_getD, List.getD_eq_getElem?_getD, List.getElem?_eq_getElem hi, List.getElem?_eq_getElem hj] at e
    exact hne ((List.getElem_inj hn).mp e)) h1
theorem w_lsort {Q : Value → Shared → Prop} (F : Fr h₀ L s.heap m) (N : News h₀ L s.heap ((D, listOf us.toArray c) :: n)) (off : ∀ p ∈ n, p.1 ≠ D) (hA : All2 (WIn n) us W) (hn : W.Nodup) (h2 : 2 ≤ W.length) (h64 : W.length < 64)
    (h : ∀ h' c' us' W', Fr h₀ L h' m → News h₀ L h' ((D, listOf (List.toArray us') c') :: n) → All2 (WIn n) us' W' → W'.Perm W → W'.Pairwise (fun a b => lex a b = true) → Q .none { s with heap := h' }) :
    wpAny (model prog w) A (call (.builtin "list.sort") [.ref D]) Q E s := by
  have hl := hA.length
  refine kat_lsort (vs := us) F N (.head off) (by simp) (by omega) (by omega) fun e1 h' F' N' => ?_
  have N1 : News h₀ L h' n := fun p hp => N' p (.tail _ hp)
  obtain ⟨fs, k1, k2, k3⟩ := w_firsts N1 hA
  refine kat_kind (T := .type "int") k1 (by omega) (fun v hv => by obtain ⟨z, t, rfl⟩ := k3 v hv; exact Looks.of_pure rfl) rfl ?_
  show (kas_sort us.length).kasWp (kas_ask prog w A.in1 (tuples' true) us) _ _
  rw [hl]
  refine KWp.wp (n := W.length) (I := fun s' => s' = { s with heap := h' }) ?_ ?_ _ _ (sort_ok (w_order hn) h2) rfl
  · rintro i j C s' hi hj rfl hC
    unfold kas_ask
    obtain ⟨x, hx, r⟩ := hA.get (List.getElem?_eq_getElem hi)
    obtain ⟨y, hy, r'⟩ := hA.get (List.getElem?_eq_getElem hj)
    have e1 : us.getD i Value.none = x := by rw [List.getD_eq_getElem?_getD, hx]; rfl
    have e2 : us.getD j Value.none = y := by rw [List.getD_eq_getElem?_getD, hy]; rfl
    have e3 : W.getD i (0, 0) = W[i] := by rw [List.getD_eq_getElem?_getD, List.getElem?_eq_getElem hi]; rfl
    have e4 : W.getD j (0, 0) = W[j] := by rw [List.getD_eq_getElem?_getD, List.getElem?_eq_getElem hj]; rfl
    rw [e1, e2]
    have hC' := hC _ rfl
    simp only [e3, e4] at hC'
    cases r with
    | mk r =>
      cases r' with
      | mk r' => exact w_ask N1 r r' hC'
  · rintro p s' ⟨P, u⟩ rfl
    refine KasFin.intro F' N' (.head off) fun h'' c' F'' N'' => ?_
    have hm : ∀ i ∈ p.toList, i < W.length := fun i hi => by simpa using P.perm.mem_iff.mp hi
    refine h h'' c' _ (p.toList.map fun i => W.getD i (0, 0)) F'' N'' (hA.pick hm) ?_ ?_
    · refine (P.perm.map _).trans ?_
      have : (List.range W.length).map (fun i => W.getD i (0, 0)) = W := by
        apply List.ext_getElem
        · simp
        · intro i h1 h2
          simp [h2]
      rw [this]
    · rw [List.pairwise_map, List.pairwise_iff_getElem]
      intro i j hi hj hij
      have hs := P.size
      have hi' : i < p.size := by simpa using hi
      have hj' : j < p.size := by simpa using hj
      have := u i j hij (by omega)
      simp only [at', Array.getD_eq_getD_getElem?, Array.getElem?_eq_getElem hi', Array.getElem?_eq_getElem hj', Option.getD_some] at this
      simpa using this
end
end
section
set_option maxRecDepth 100000
set_option maxHeartbeats 2000000
section
variable {prog : Program} {w : World} {A : Around} {E : Value → Shared → Prop} {s : Shared} {h₀ : Heap} {L D a b d : Addr} {m : Str → Option Value} {n : List (Addr × Obj)} {c c' : Nat} {us ys : List Value} {W V : List (Nat × Nat)} {o : Obj} {xs : List (List Int × Addr × Value)} {fs : List (Nat × Nat)}
theorem h_entries (hd : HDict prog w o xs) : ∃ (es : Array DictEntry) (ep : Nat), o.ExactDict ∧ o.data = .dict es ep ∧ es.size = xs.length ∧ ∀ (i : Nat) (e : DictEntry), es[i]? = some e → ∃ x, xs[i]? = some x ∧ e.key = .ref x.2.1 := by
  obtain ⟨es, ep, h1, h2, h3, _⟩ := hd.out
  refine ⟨es, ep, h1, h2, size_of_entries h3, fun i e he => ?_⟩
  rw [entry_at h3 i] at he
  cases hx : xs[i]? with
  | none => rw [hx] at he; cases he
  | some x => rw [hx] at he; cases he; exact ⟨x, rfl, rfl⟩
theorem All2.ofGet {α β : Type} {R : α → β → Prop} : ∀ {as : List α} {bs : List β}, as.length = bs.length → (∀ (i : Nat) (a : α) (b : β), as[i]? = some a → bs[i]? = some b → R a b) → All2 R as bs
  | [], [], _, _ => .nil
  | [], _ :: _, h, _ => by simp at h
  | _ :: _, [], h, _ => by simp at h
  | a :: as, b :: bs, h, f => .cons (f 0 a b rfl rfl) (All2.ofGet (by simpa using h) fun i x y hx hy => f (i + 1) x y (by simpa using hx) (by simpa using hy))
theorem w_sorted_dict {Q : Value → Shared → Prop} (hh : A.handled = none) (F : Fr h₀ L s.heap m) (N : News h₀ L s.heap n) (hm : (d, o) ∈ n) (hd : HDict prog w o xs) (lo : (d == sysModules) = false) (hA : All2 (KIn n) xs fs) (hn : fs.Nodup) (h2 : 2 ≤ fs.length) (h64 : fs.length < 64)
    (h : ∀ D h' tk c us' W', Fr h₀ L h' m → News h₀ L h' ((D, listOf (List.toArray us') c) :: n) → (∀ q ∈ n, q.1 < D) → All2 (WIn n) us' W' → W'.Perm fs → W'.Pairwise (fun a b => lex a b = true) → Q (.ref D) { s with heap := h', toks := tk }) :
    wpAny (model prog w) A (call (.builtin "sorted") [.ref d]) Q E s := by
  obtain ⟨es, ep, h1, h3, h4, h5⟩ := h_entries hd
  have hl := hA.length
  refine kdu_sorted (raw_src (es := es) (ep := ep) lo) hh F N ⟨o, (N _ hm).1, h1, h3⟩ (by rw [h4, hl, sizeLine_eq]; omega) fun D h' tk vs F' N' l1 hv1 hv2 => ?_
  have hA' : All2 (WIn n) vs fs := All2.ofGet (by omega) fun i v q hv hq => by
    obtain ⟨e, he, rfl⟩ := hv2 i v hv
    obtain ⟨x, hx, ek⟩ := h5 i e he
    obtain ⟨q', hq', r⟩ := hA.get' hx
    rw [hq] at hq'
    cases hq'
    rw [ek]
    cases r with
    | mk p => exact .mk p
  exact w_lsort F' N' (fun p hp => Nat.ne_of_lt (l1 p hp)) hA' hn h2 h64 fun h'' c' us' W' F'' N'' hA'' hp hs => h D h'' tk c' us' W' F'' N'' l1 hA'' hp hs
theorem w_sorted_list {Q : Value → Shared → Prop} (F : Fr h₀ L s.heap m) (N : News h₀ L s.heap n) (hm : (d, listOf us.toArray c) ∈ n) (hA : All2 (WIn n) us W) (hn : W.Nodup) (h2 : 2 ≤ W.length) (h64 : W.length < 64)
    (h : ∀ D h' c us' W', Fr h₀ L h' m → News h₀ L h' ((D, listOf (List.toArray us') c) :: n) → (∀ q ∈ n, q.1 < D) → All2 (WIn n) us' W' → W'.Perm W → W'.Pairwise (fun a b => lex a b = true) → Q (.ref D) { s with heap := h' }) :
    wpAny (model prog w) A (call (.builtin "sorted") [.ref d]) Q E s := by
  have hl := hA.length
  refine kat_sorted (vs := us) F N ⟨_, (N _ hm).1, rfl, c, rfl⟩ (by omega) (by omega) fun D e1 h' F' N' l1 => ?_
  have N1 : News h₀ L h' n := fun p hp => N' p (.tail _ hp)
  have off : ∀ p ∈ n, p.1 ≠ D := fun p hp => Nat.ne_of_lt (l1 p hp)
  obtain ⟨fs, k1, k2, k3⟩ := w_firsts N1 hA
  refine kat_kind (T := .type "int") k1 (by omega) (fun v hv => by obtain ⟨z, t, rfl⟩ := k3 v hv; exact Looks.of_pure rfl) rfl ?_
  show (kas_sort us.length).kasWp (kas_ask prog w A.in1.in1 (tuples' true) us) _ _
  rw [hl]
  refine KWp.wp (n := W.length) (I := fun s' => s' = { s with heap := h' }) ?_ ?_ _ _ (sort_ok (w_order hn) h2) rfl
  · rintro i j C s' hi hj rfl hC
    unfold kas_ask
    obtain ⟨x, hx, r⟩ := hA.get (List.getElem?_eq_getElem hi)
    obtain ⟨y, hy, r'⟩ := hA.get (List.getElem?_eq_getElem hj)
    have e1 : us.getD i Value.none = x := by rw [List.getD_eq_getElem?_getD, hx]; rfl
    have e2 : us.getD j Value.none = y := by rw [List.getD_eq_getElem?_getD, hy]; rfl
    have e3 : W.getD i (0, 0) = W[i] := by rw [List.getD_eq_getElem?_getD, List.getElem?_eq_getElem hi]; rfl
    have e4 : W.getD j (0, 0) = W[j] := by rw [List.getD_eq_getElem?_getD, List.getElem?_eq_getElem hj]; rfl
    rw [e1, e2]
    have hC' := hC _ rfl
    simp only [e3, e4] at hC'
    cases r with
    | mk r =>
      cases r' with
      | mk r' => exact w_ask N1 r r' hC'
  · rintro p s' ⟨P, u⟩ rfl
    refine KasFin.intro F' N' (.head off) fun h'' c' F'' N'' => ?_
    have hm : ∀ i ∈ p.toList, i < W.length := fun i hi => by simpa using P.perm.mem_iff.mp hi
    refine h D h'' c' _ (p.toList.map fun i => W.getD i (0, 0)) F'' N'' l1 (hA.pick hm) ?_ ?_
    · refine (P.perm.map _).trans ?_
      have : (List.range W.length).map (fun i => W.getD i (0, 0)) = W := by
        apply List.ext_getElem
        · simp
        · intro i h1 h2
          simp [h2]
      rw [this]
    · rw [List.pairwise_map, List.pairwise_iff_getElem]
      intro i j hi hj hij
      have hs := P.size
      have hi' : i < p.size := by simpa using hi
      have hj' : j < p.size := by simpa using hj
      have := u i j hij (by omega)
      simp only [at', Array.getD_eq_getD_getElem?, Array.getElem?_eq_getElem hi', Array.getElem?_eq_getElem hj', Option.getD_some] at this
      simpa using this
theorem pair_eqv : ∀ W V : List (Nat × Nat), PyData.eqvAll (W.map pairD) (V.map pairD) = decide (W = V)
  | [], [] => by simp [PyData.eqvAll]
  | [], _ :: _ => by simp [PyData.eqvAll]
  | _ :: _, [] => by simp [PyData.eqvAll]
  | (p, h) :: W, (q, k) :: V => by
    have hc : ((p : Int) == (q : Int)) = decide (p = q) := by
      by_cases e : p = q <;> simp [e]; omega
    have hd : ((h : Int) == (k : Int)) = decide (h = k) := by
      by_cases e : h = k <;> simp [e]; omega
    simp [List.map_cons, pairD, PyData.eqvAll, PyData.eqv, pair_eqv W V, hc, hd]
theorem ne_ws {Q : Value → Shared → Prop} (N : News h₀ L s.heap n) (hm : (a, listOf us.toArray c) ∈ n) (hA : All2 (WIn n) us W) (hb : (b, listOf ys.toArray c') ∈ n) (hB : All2 (WIn n) ys V) (hu : A.units + 64 < cLine)
    (h1 : W ≠ V → Q (.bool true) s) (h2 : W = V → Q (.bool false) s) : wpAny (model prog w) A (compareOp .NotEq (.ref a) (.ref b)) Q E s := by
  obtain ⟨as, r⟩ := w_reads N hA
  obtain ⟨bs, r'⟩ := w_reads N hB
  refine ne_dataH (reads_list_at (N _ hm).1 rfl rfl (by simpa using r)) (reads_list_at (N _ hb).1 rfl rfl (by simpa using r')) (w_shaped W) (w_shaped V) hu ?_
  have e : PyData.eqv (.list (W.map pairD)) (.list (V.map pairD)) = decide (W = V) := by
    simp only [PyData.eqv]
    exact pair_eqv W V
  rw [e]
  by_cases q : W = V
  · rw [decide_eq_true q]; exact h2 q
  · rw [decide_eq_false q]; exact h1 q
end
end
section
set_option maxRecDepth 100000
set_option maxHeartbeats 2000000
section
variable {prog : Program} {w : World} {A : Around} {E : Value → Shared → Prop} {s : Shared} {h₀ : Heap} {L a : Addr} {m : Str → Option Value} {n : List (Addr × Obj)} {us : List Value} {ps : List Nat} {c : Nat}
theorem dict_pairs {Q : Value → Shared → Prop} (hh : A.handled = none) (F : Fr h₀ L s.heap m) (N : News h₀ L s.heap n) (hm : (a, listOf us.toArray c) ∈ n) (hA : All2 (PTin n) us ps) (hsz : ps.length ≤ 1000000)
    (h : ∀ D o h' tk, Fr h₀ L h' m → News h₀ L h' ((D, o) :: n) → (∀ q ∈ n, q.1 < D) → L < D → o.IsDictOf (PySem.intKind prog w) (ps.foldl putP []) → Q (.ref D) { s with heap := h', toks := tk }) :
    wpAny (model prog w) A (call (.type "dict") [.ref a]) Q E s := by
  have hl := hA.length
  have ha := (N _ hm).1
  have halt := Heap.lt_size ha
  have fresh : ∀ b o, s.heap.get? b = some o → b ≠ s.heap.objs.size := fun b o e => Nat.ne_of_lt (Heap.lt_size e)
  refine callType_codes (Q₁ := fun obj s₁ => obj = .ref s.heap.objs.size ∧ s₁ = { s with heap := s.heap.push { cls := .type "dict", data := .dict #[] } }) PySem.F.kt_called_dict (PySem.F.kt_typeCall_dict_1 _) PySem.F.entry_dict_init (kt_code_dict_new _ ⟨rfl, rfl⟩) ?_
  rintro obj s₁ ⟨rfl, rfl⟩
  have hnew : (s.heap.push { cls := .type "dict", data := .dict #[] }).DictOf (PySem.intKind prog w) s.heap.objs.size [] := Heap.DictOf.new s.heap
  have ha1 : (s.heap.push { cls := .type "dict", data := .dict #[] }).get? a = some (listOf us.toArray c) := Heap.get?_push_of_some _ ha
  refine ⟨hnew.typeIs, PySem.F.args_dict_init_2 _ _, ?_⟩
  unfold Builtin.«dict.__init__»
  refine wpAny_bind ?_
  unfold Builtin.Dict.selfAndRest
  refine wpAny_bind (wpAny_notOrdered_dict hnew.typeIs ?_)
  show wpAny _ _ (pure (s.heap.objs.size, [Value.ref a])) _ _ _
  refine wpAny_pure ?_
  show wpAny _ _ (Builtin.Dict.updateFrom "dict.__init__" s.heap.objs.size (.ref a) [] .none) _ _ _
  unfold Builtin.Dict.updateFrom
  refine wpAny_bind (wpAny_typeOf (T := "list") ⟨_, ha1, rfl⟩ ?_)
  rw [if_pos (by decide)]
  refine wpAny_bind (list_no_keys ha1 (show A.in1.in1.handled = none from hh) fun h₂ tk₂ hk₂ => ?_)
  simp only [Option.isNone_none, if_true]
  refine wpAny_bind (wpAny_rule ?_)
  have ha2 : h₂.get? a = some (listOf us.toArray c) := hk₂ _ _ ha1
  have hl2 : h₂.IsList a us.toArray := ⟨_, ha2, rfl, c, rfl⟩
  refine wpAny_bind (wpAny_pyIter_list hl2 ?_)
  refine wpAny_pure ⟨plainId_quiet upd_plain _, ?_⟩
  have hDlt : s.heap.objs.size < h₂.objs.size := by
    obtain ⟨o, es, ep, ho, _⟩ := hnew
    exact Heap.lt_size (hk₂ _ _ ho)
  have keep : ∀ b o, s.heap.get? b = some o → (h₂.push { cls := .type "list_iterator", data := .fields #[.ref a, .int 0 0] }).get? b = some o := fun b o e => Heap.get?_push_of_some _ (hk₂ _ _ (Heap.get?_push_of_some _ e))
  refine upd_loop (ps := ps) (items := us.toArray) (D := s.heap.objs.size) (I := h₂.objs.size) (ax := a) (A := A.in1) (show A.in1.handled = none from hh) (Nat.ne_of_lt hDlt) (Nat.ne_of_gt halt) (Nat.ne_of_lt (Nat.lt_trans halt hDlt)) (by rw [List.size_toArray]; omega) (by rw [List.size_toArray]; omega)
    us.toArray.size 0 _ [] (by omega) (by omega) (by simp) ⟨_, Heap.get?_push_size _ rfl, rfl, rfl⟩ (hl2.push _) ?_ (fun j v p hj hp => ?_) (fun h' tk hk' hD' => ?_)
  · obtain ⟨o, es, ep, ho, r⟩ := hnew
    exact ⟨o, es, ep, Heap.get?_push_of_some _ (hk₂ _ _ ho), r⟩
  · obtain ⟨v', hv', r⟩ := hA.get hp
    have : v' = v := by
      have hj' : us[j]? = some v := by simpa using hj
      rw [hj'] at hv'
      exact (Option.some.inj hv').symm
    subst this
    cases r with
    | mk hx =>
      have hx' := (N _ hx).1
      exact ⟨_, _, _, rfl, fresh _ _ hx', Nat.ne_of_lt (Nat.lt_trans (Heap.lt_size hx') hDlt), keep _ _ hx'⟩
  · have hkk : ∀ b o, s.heap.get? b = some o → h'.get? b = some o := fun b o e => hk' b o (fresh b o e) (Nat.ne_of_lt (Nat.lt_trans (Heap.lt_size e) hDlt)) (keep b o e)
    obtain ⟨o, ho, hd⟩ := Heap.dictOf_iff.mp hD'
    refine ⟨rfl, ?_⟩
    exact h _ o h' tk (F.keeps hkk) (news_pushed F N hkk ho rfl) (fun q hq => Heap.lt_size (N q hq).1) F.ns.lt hd
end
end
section
set_option maxRecDepth 100000
set_option maxHeartbeats 2000000
theorem table_item {prog : Program} {w : World} {A : Around} {E : Value → Shared → Prop} {s : Shared} {h₀ : Heap} {L D : Addr} {n : List (Addr × Obj)} {rs : List Value} {k c : Nat} {value slice : PySem.Expr} {t : Tok} {Q : Value → Shared → Prop}
    (N : News h₀ L s.heap n) (hm : (D, listOf rs.toArray c) ∈ n) {n₂ : List (Addr × Obj)} (hA : All2 (RowIn n₂) rs [0, 1, 2, 3, 4, 5])
    (h : ∀ v, RowIn n₂ v (k % 6) → Q v s)
    (hs : subscripted slice false (.ref D) (.int (Int.fmod (k : Int) 6) t) = operate [.ref D, .int (Int.fmod (k : Int) 6) t] (getItem (.ref D) (.int (Int.fmod (k : Int) 6) t)) := by with_unfolding_all rfl) :
    wpAny (model prog w) A (subscriptTail value slice (.ref D) (.int (Int.fmod (k : Int) 6) t)) Q E s := by
  have e : Int.fmod (k : Int) 6 = ((k % 6 : Nat) : Int) := by
    rw [Int.fmod_eq_emod_of_nonneg _ (by decide)]; omega
  have hlt : k % 6 < 6 := Nat.mod_lt _ (by decide)
  rw [e] at hs ⊢
  refine list_item (R := RowIn n₂) N hm hA (by omega) (by simp only [List.length_cons, List.length_nil]; omega) (by decide) (fun v b hb r => ?_) hs
  have hb2 : b = k % 6 := by
    rw [Int.toNat_natCast] at hb
    generalize k % 6 = j at hb hlt
    match j, hlt with
    | 0, _ => simpa using hb.symm
    | 1, _ => simpa using hb.symm
    | 2, _ => simpa using hb.symm
    | 3, _ => simpa using hb.symm
    | 4, _ => simpa using hb.symm
    | 5, _ => simpa using hb.symm
  exact h v (hb2 ▸ r)
theorem table_mk {h₀ h : Heap} {L l a0 a1 a2 a3 a4 a5 x1 x2 : Addr} {o1 o2 : Obj} {n news : List (Addr × Obj)} (N : News h₀ L h n) (hm : (l, listOf #[.ref a0, .ref a1, .ref a2, .ref a3, .ref a4, .ref a5] 0) ∈ n) (r0 : RowIn n (.ref a0) 0) (r1 : RowIn n (.ref a1) 1) (r2 : RowIn n (.ref a2) 2) (r3 : RowIn n (.ref a3) 3) (r4 : RowIn n (.ref a4) 4) (r5 : RowIn n (.ref a5) 5)
    (hg : Grow news n) (h1 : (x1, o1) ∈ n) (h2 : (x2, o2) ∈ n) :
    ∃ n1 rs, News h₀ L h n1 ∧ Grow news n1 ∧ (x1, o1) ∈ n1 ∧ (x2, o2) ∈ n1 ∧ (l, listOf (List.toArray rs) 0) ∈ n1 ∧ All2 (RowIn n1) rs [0, 1, 2, 3, 4, 5] :=
  ⟨_, _, N, hg, h1, h2, hm, .cons r0 (.cons r1 (.cons r2 (.cons r3 (.cons r4 (.cons r5 .nil)))))⟩
end
local macro_rules | `(tactic| walk_at "m_z0") => `(tactic| (intro _ _ _ _ _ _ B' _ _; (try dsimp only); (try k_lift B'); (try k_fold)))
local macro_rules | `(tactic| walk_at "m_z1") => `(tactic| (intro _ _ _ _ _ l1 l2; (try k_lt l1); (try k_lt2 l2); (try k_sweep); walk_at "m_enter"))
section
theorem words_K11_1 : True := by
  k_with_none
  k_with "m_mem" => first | assumption | exact List.Mem.head _ | (refine List.mem_cons_of_mem _ ?_; walk_at "m_mem") | (refine List.mem_append_left _ ?_; walk_at "m_mem") | (refine List.mem_append_right _ ?_; walk_at "m_mem") | exact Put.mem (by assumption) | (refine' Grow.mem ?q9mg _ ?q9mh; (case q9mg => with_reducible assumption); (case q9mh => walk_at "m_mem")) | (refine' Put.keep ?q9mp ?q9mh ?q9mn; (case q9mp => with_reducible assumption); (case q9mh => walk_at "m_mem"); (case q9mn => walk_at "m_ne")) | (refine' Grow.mem ?q9mg _ ?q9mh; (case q9mh => with_reducible assumption); (case q9mg => walk_at "m_grow")) | fail "m_mem"
  k_with "m_ne" => first | assumption | exact Ne.symm (by assumption) | (refine Nat.ne_of_lt ?_; walk_at "m_lt") | (refine Nat.ne_of_gt ?_; walk_at "m_lt") | fail "m_ne"
  k_with "m_all" => first | assumption | exact tb_ltOf (And.right (by with_reducible assumption)) | exact tb_ltOf (And.right (And.right (by with_reducible assumption))) | exact tb_ltOf (And.right (And.right (And.right (by with_reducible assumption)))) | exact tb_ltOf (And.right (And.right (And.right (And.right (by with_reducible assumption))))) | exact tb_ltOf (And.right (And.right (And.right (And.right (And.right (by with_reducible assumption)))))) | fail "m_all"
  k_with "m_lt" => first | assumption | omega | (refine' lt_mem ?q9ma ?q9mb; (case q9mb => assumption); (case q9ma => first | assumption | exact tb_ltOf (by assumption))) | (refine' lt_mem ?q9ma ?q9mb; (case q9ma => walk_at "m_all"); (case q9mb => walk_at "m_mem")) | (solve_by_elim (config := { maxDepth := 3 })) | fail "m_lt"
  k_with "m_below" => first | assumption | (refine tb_ltOf ?_; (try simp only [AllLt, and_true]); first | assumption | omega) | fail "m_below"
  k_with "m_grow" => first | exact Grow.refl _ | assumption | (refine' Grow.cons ?q9ml ?q9mg; (case q9ml => walk_at "m_below"); (case q9mg => walk_at "m_grow")) | (refine' Grow.trans ?q9mg ?q9mk; (case q9mk => assumption); (case q9mg => walk_at "m_grow")) | (refine' Put.grow ?q9mp ?q9mg ?q9ml; (case q9mp => with_reducible assumption); (case q9ml => walk_at "m_below"); (case q9mg => walk_at "m_grow")) | fail "m_grow"
  k_with "m_news" => first | k_asm | (refine' cb_drop ?q9mN ?q9mS; (case q9mN => assumption); (case q9mS => (intro _ _; walk_at "m_mem"))) | fail "m_news"
  k_with "m_enter" => (refine' code_def ?q9k1 ?q9k2 ?q9k3 ?q9k4 ?q9k5 ?q9kA ?q9kF ?q9kK ?q9k6 ?q9k7 ?q9k8 ?q9k9 ?q9kB ?_ ?q9c2 ?q9c3 ?q9c4 ?q9c5; (case q9kA => exact rfl); (case q9kF => exact rfl); (case q9kK => first | exact rfl | assumption); (case q9k1 => k_asm); (case q9k2 => k_asm); (case q9k3 => k_asm); (case q9k4 => k_asm); (case q9k5 => k_asm); (case q9k6 => k_is); (case q9k7 => k_is); (case q9k8 => ktr_room); (case q9k9 => exact BindsTo.of_eq rfl); (case q9c5 => decide); (case q9kB => exact locs rfl); (case q9c2 => exact rfl); (case q9c3 => exact rfl); (case q9c4 => exact rfl); k_whole; walk_at "m_z0")
  k_with "call ref" => (k_here; k_dflt (first
  | (refine' call_cls ?q9k1 ?q9k2 ?q9k3 ?q9k4 ?q9k5 ?q9k6 ?_; (case q9k1 => k_asm); (case q9k2 => k_asm); (case q9k3 => k_asm); (case q9k4 => k_is); (case q9k5 => k_is); (case q9k6 => k_is); k_whole; walk_at "m_z1")
  | (refine wpAny_call ?_; walk_at "m_enter")))
  k_with "m_start" => (with_reducible rename Frag.In _ _ => hK9; revert hK9; k_fill; intro hK9)
  trivial
/-- what is no dict stays -/
structure Stay (n n' : List (Addr × Obj)) : Prop where
  out : ∀ y o, (y, o) ∈ n → (∀ es k, o.data ≠ .dict es k) → (y, o) ∈ n'
theorem Stay.list {n n' : List (Addr × Obj)} (s : Stay n n') {x : Addr} {vs : Array Value} {k : Nat} (h : (x, listOf vs k) ∈ n) : (x, listOf vs k) ∈ n' := s.out _ _ h fun _ _ e => by cases e
theorem Stay.cell {n n' : List (Addr × Obj)} (s : Stay n n') {x : Addr} {o : Obj} {v : Option Value} (h : (x, o) ∈ n) (hd : o.data = .cell v) : (x, o) ∈ n' := s.out _ _ h fun _ _ e => by rw [hd] at e; cases e
theorem Stay.tup {n n' : List (Addr × Obj)} (s : Stay n n') : TupSub n n' := ⟨fun x vs k h => s.out _ _ h fun _ _ e => by cases e⟩
set_option maxRecDepth 100000 in
set_option maxHeartbeats 8000000 in
theorem set_code {w : World} {A : Around} {E : Value → Shared → Prop} {h₀ : Heap} {L : Addr} {m : Str → Option Value} {news : List (Addr × Obj)} {s : Shared} {Q : Unit → Shared → Prop} {u d C' : Addr} {k : Nat → Tok} {P C cs us hs ls cp pp : Addr}
    (hF : Fr h₀ L s.heap m) (hK : (hd.heap_1 w.params).In h₀) (hN : News h₀ L s.heap news) (hU : UnitIn w news u d k P C cs us hs ls cp pp)
    (h : ∀ h' n', Fr h₀ L h' m → News h₀ L h' n' → Put d (dictOf (unitEs w k P C' cs us hs ls cp pp) 15) news n' → UnitIn w n' u d k P C' cs us hs ls cp pp → Stay news n' → Q () { s with heap := h', toks := s.toks + 2 }) :
    wpAny (model Challenge.rw_sm0039_01.row.prog w) A (setAttr (.ref u) (Str.ofString "code") (.ref C')) Q E s := by
  have hKd := kdMark
  obtain ⟨hu1, hu2, hu3, hu4, hu5, hu6, hu7⟩ := id hU
  revert hK; k_fill; intro hK
  have N2 := news_flt hN hu2
  have fn : ∀ y o', (y, o') ∈ news → y = d → o' = dictOf (unitEs w k P C cs us hs ls cp pp) 15 := fun y o' hy e => by
    have a := (hN _ hy).1
    have b := (hN _ hu2).1
    simp only at a b
    rw [e, b] at a
    exact (Option.some.inj a).symm
  have nl : ∀ y, (y, listOf #[] 0) ∈ news → y ≠ d := fun y hy e => by
    have := congrArg Obj.cls (fn _ _ hy e)
    simp at this
  have ni : u ≠ d := fun e => by
    have := congrArg Obj.cls (fn _ _ hu1 e)
    simp [instObj] at this
  k_dflt (refine' set_dict ?k1 ?k2 ?k3 ?k4 ?k5 ?k6 ?k7 ?k8 ?k9 ?k10 ?k11 ?k12 ?k13 ?_; (case k1 => exact hF); (case k2 => exact hK); (case k3 => exact N2); (case k4 => exact InstAt.of_news hN hu1 hu2); (case k5 => exact rfl); (case k6 => k_is); (case k7 => k_is); (case k8 => k_is); (case k9 => k_is); (case k10 => rfl); (case k12 => exact Upd.head flt_ne); (case k11 => rfl); (case k13 => exact Nat.le_of_ble_eq_true rfl); intro h' F' N')
  have pt : Put d (dictOf (unitEs w k P C' cs us hs ls cp pp) 15) news ((d, dictOf (unitEs w k P C' cs us hs ls cp pp) 15) :: flt d news) := ⟨rfl⟩
  exact h h' _ F' N' pt ⟨pt.keep hu1 ni, pt.mem, pt.keep hu3 (nl _ hu3), pt.keep hu4 (nl _ hu4), pt.keep hu5 (nl _ hu5), pt.keep hu6 (nl _ hu6), pt.keep hu7 (nl _ hu7)⟩ ⟨fun y o hy hnd => pt.keep hy fun e => hnd _ _ (congrArg Obj.data (fn _ _ hy e))⟩
end
section
set_option maxRecDepth 100000
theorem ne_cells {prog : Program} {w : World} {A : Around} {E : Value → Shared → Prop} {s : Shared} {h₀ : Heap} {L D b : Addr} {n : List (Addr × Obj)} {us : List Value} {cs : List Nat} {c c' : Nat} {Q : Value → Shared → Prop}
    (N : News h₀ L s.heap n) (hm : (D, listOf us.toArray c) ∈ n) (hI : IntsAre us (cs.map Int.ofNat)) (hb : (b, listOf #[] c') ∈ n) (hu : A.units + 64 < cLine)
    (h1 : cs ≠ [] → Q (.bool true) s) (h2 : cs = [] → Q (.bool false) s) : wpAny (model prog w) A (compareOp .NotEq (.ref D) (.ref b)) Q E s := by
  refine ke_ne_ints (ys := []) ⟨_, (N _ hm).1, rfl, c, rfl⟩ ⟨_, (N _ hb).1, rfl, c', rfl⟩ hI .nil hu ?_
  cases cs with
  | nil => exact h2 rfl
  | cons a cs => exact h1 (by simp)
end
section
set_option maxRecDepth 100000
/-- what is no cell stays -/
structure StayC (n n' : List (Addr × Obj)) : Prop where
  out : ∀ y o, (y, o) ∈ n → (∀ v, o.data ≠ .cell v) → (y, o) ∈ n'
namespace StayC
variable {n n' : List (Addr × Obj)}
theorem list (s : StayC n n') {x : Addr} {vs : Array Value} {k : Nat} (h : (x, listOf vs k) ∈ n) : (x, listOf vs k) ∈ n' := s.out _ _ h fun _ e => by cases e
theorem dict (s : StayC n n') {x : Addr} {o : Obj} {es : Array DictEntry} {k : Nat} (h : (x, o) ∈ n) (hd : o.data = .dict es k) : (x, o) ∈ n' := s.out _ _ h fun _ e => by rw [hd] at e; cases e
theorem tup (s : StayC n n') : TupSub n n' := ⟨fun x vs k h => s.out _ _ h fun _ e => by cases e⟩
theorem unit (s : StayC n n') {w : World} {u d : Addr} {k : Nat → Tok} {P C cs us hs ls cp pp : Addr} (h : UnitIn w n u d k P C cs us hs ls cp pp) : UnitIn w n' u d k P C cs us hs ls cp pp :=
  ⟨s.out _ _ h.1 (fun _ e => by simp [instObj] at e), s.out _ _ h.2 (fun _ e => by cases e), s.list h.3, s.list h.4, s.list h.5, s.list h.6, s.list h.7⟩
end StayC
theorem store_c2 {M : Model} {A : Around} {E : Value → Shared → Prop} {s : Shared} {h₀ : Heap} {L : Addr} {m : Str → Option Value} {n : List (Addr × Obj)} {cn : Str} {cs : Scope} {ccd : Value} {cl : List (Str × Addr)} {a0 : Addr} {x : Str} {v : Value} {cc : Addr} {o : Obj} {v₀ : Option Value} {Q : Unit → Shared → Prop} (F : Fr h₀ L s.heap m) (N : News h₀ L s.heap n) (hc : cl.lookup x = some cc) (hm : (cc, o) ∈ n) (hd : o.data = .cell v₀)
    (h : ∀ h' o' n', Fr h₀ L h' m → News h₀ L h' n' → Put cc o' n n' → StayC n n' → o'.data = .cell (some v) → Q () { s with heap := h' })
    (hk : cs.kind = .function := by rfl) (hx : (envX cn cs L a0 ccd cl).kindOf x = some .cell := by rfl) : wpAny M A (storeName (envX cn cs L a0 ccd cl) x v) Q E s := by
  refine storeX_C F (news_flt N hm) hc (.head flt_ne) hd (fun h' o' F' N' hd' => h h' o' _ F' N' ⟨rfl⟩ ⟨fun y ob hy hn => ?_⟩ hd') hk hx
  refine .tail _ (mem_flt hy fun e => ?_)
  have h1 := (N _ hm).1
  have h2 := (N _ hy).1
  simp only at e h1 h2
  rw [e, h1] at h2
  exact hn v₀ (by rw [← Option.some.inj h2]; exact hd)
end
section
open LCg LCp
set_option maxRecDepth 100000
section
variable {prog : Program} {w : World}
theorem pairs_at {es : List DictEntry} {kvs : List (Int × Value)} (h : Pairs (PySem.intKind prog w) es kvs) : es.length = kvs.length ∧ ∀ (i : Nat) (e : DictEntry), es[i]? = some e → ∃ kv t, kvs[i]? = some kv ∧ e.key = .int kv.1 t := by
  induction h with
  | nil => exact ⟨rfl, fun i e he => by simp at he⟩
  | cons hk hv _ ih =>
    refine ⟨by simp [ih.1], fun i e he => ?_⟩
    cases i with
    | zero =>
      simp at he
      subst he
      obtain ⟨t, ht⟩ := Value.isInt_shape hk
      exact ⟨_, t, rfl, ht⟩
    | succ i => simpa using ih.2 i e (by simpa using he)
/-- a dict of ints to stacks, its entries -/
theorem fs_entries {o : Obj} {kvs : List (Int × Value)} {n : List (Addr × Obj)} {fs : List (Nat × Nat)} {es : Array DictEntry} {ep : Nat} (hd : o.IsDictOf (PySem.intKind prog w) kvs) (hA : All2 (FsIn n) kvs fs) (he : o.data = .dict es ep) :
    es.size = fs.length ∧ ∀ (i : Nat) (e : DictEntry), es[i]? = some e → ∃ q t, fs[i]? = some q ∧ e.key = .int ((q.1 : Nat) : Int) t := by
  obtain ⟨es', ep', h1, h2, h3, h4, h5⟩ := hd
  rw [he] at h2
  cases h2
  obtain ⟨l, f⟩ := pairs_at h4
  refine ⟨by rw [← hA.length, ← l, Array.length_toList], fun i e hi => ?_⟩
  obtain ⟨kv, t, hk, e1⟩ := f i e (by rw [Array.getElem?_toList]; exact hi)
  obtain ⟨q, hq, r⟩ := hA.get' hk
  cases r with
  | mk r => exact ⟨_, t, hq, e1⟩
theorem hd_entries {o : Obj} {xs : List (List Int × Addr × Value)} {n : List (Addr × Obj)} {fs : List (Nat × Nat)} {es : Array DictEntry} {ep : Nat} (hd : HDict prog w o xs) (hA : All2 (KIn n) xs fs) (he : o.data = .dict es ep) :
    es.size = fs.length ∧ ∀ (i : Nat) (e : DictEntry), es[i]? = some e → ∃ q, fs[i]? = some q ∧ WIn n e.key q := by
  obtain ⟨es', ep', h1, h2, h4, h5⟩ := h_entries hd
  rw [he] at h2
  cases h2
  refine ⟨by rw [← hA.length, ← h4], fun i e hi => ?_⟩
  obtain ⟨x, hx, ek⟩ := h5 i e hi
  obtain ⟨q, hq, r⟩ := hA.get' hx
  cases r with
  | mk r => exact ⟨_, hq, by rw [ek]; exact .mk r⟩
end
theorem All2.snoc {α β : Type} {R : α → β → Prop} {as : List α} {bs : List β} {a : α} {b : β} (h : All2 R as bs) (r : R a b) : All2 R (as ++ [a]) (bs ++ [b]) := h.append (.cons r .nil)
theorem take_snoc {β : Type} {bs : List β} {i : Nat} {b : β} (h : bs[i]? = some b) : bs.take (i + 1) = bs.take i ++ [b] := by
  obtain ⟨hi, e⟩ := List.getElem?_eq_some_iff.mp h
  rw [List.take_succ_eq_append_getElem hi, e]
end
section
structure SetMark : Prop where
structure ItMark : Prop where
theorem op_ne_no {prog : Program} {w : World} {A : Around} {E : Value → Shared → Prop} {s : Shared} {Q : Value → Shared → Prop} {a : Int} {t u : Tok} (h : Q (.bool false) s) :
    wpAny (model prog w) A (compareOp .NotEq (.int a t) (.int a u)) Q E s := ne_int (by rw [show (a != a) = false from by simp]; exact h)
theorem sum_cast (l : List Nat) : (l.map Int.ofNat).sum = ((l.sum : Nat) : Int) := by
  induction l with
  | nil => rfl
  | cons a l ih => simp only [List.map_cons, List.sum_cons, ih]; exact (Int.natCast_add a l.sum).symm
section
variable {n : List (Addr × Obj)} {X : Addr} {t u : Tok} {k s p : Nat} {i : Ins}
theorem moved_none (hm : (X, tupO [.int i.op t, .none] k) ∈ n) (ha : i.arg = none) : InsIn n (.ref X) (i.move s) := by
  rw [← Ins.move_op s i] at hm
  exact .mk hm (by rw [Ins.move_arg, ha]; exact .none)
theorem moved_le (hm : (X, tupO [.int i.op t, .int (p : Int) u] k) ∈ n) (ha : i.arg = some p) (h : p ≤ s) : InsIn n (.ref X) (i.move s) := by
  rw [← Ins.move_op s i] at hm
  refine .mk hm ?_
  rw [Ins.move_arg, ha]
  show ArgV (some (if p ≤ s then p else p + 1)) _
  rw [if_pos h]
  exact .int _ _
theorem moved_gt (hm : (X, tupO [.int i.op t, .int ((p : Int) + 1) u] k) ∈ n) (ha : i.arg = some p) (h : ¬ p ≤ s) : InsIn n (.ref X) (i.move s) := by
  rw [← Ins.move_op s i] at hm
  refine .mk hm ?_
  rw [Ins.move_arg, ha]
  show ArgV (some (if p ≤ s then p else p + 1)) _
  rw [if_neg h]
  exact .int (p + 1) _
end
theorem map_take_snoc {β γ : Type} {f : β → γ} {bs : List β} {i : Nat} {b : β} (h : bs[i]? = some b) : (bs.take (i + 1)).map f = (bs.take i).map f ++ [f b] := by
  obtain ⟨hi, e⟩ := List.getElem?_eq_some_iff.mp h
  rw [List.take_succ_eq_append_getElem hi, e, List.map_append]
  rfl
theorem ins_item {prog : Program} {w : World} {A : Around} {E : Value → Shared → Prop} {s : Shared} {h₀ : Heap} {L D : Addr} {n : List (Addr × Obj)} {c : Nat} {us : List Value} {l : List Ins} {value slice : PySem.Expr} {z : Int} {t : Tok} {Q : Value → Shared → Prop}
    (N : News h₀ L s.heap n) (hm : (D, listOf us.toArray c) ∈ n) (hA : All2 (InsIn n) us l) (h0 : 0 ≤ z) (h1 : z < l.length) (hfit : l.length ≤ 1000000)
    (h : ∀ v b, l[z.toNat]? = some b → InsIn n v b → Q v s)
    (hs : subscripted slice false (.ref D) (.int z t) = operate [.ref D, .int z t] (getItem (.ref D) (.int z t)) := by with_unfolding_all rfl) :
    wpAny (model prog w) A (subscriptTail value slice (.ref D) (.int z t)) Q E s := list_item N hm hA h0 h1 hfit h hs
end
section
set_option maxRecDepth 100000
structure LenMark : Prop where
structure DictMark : Prop where
theorem raw_meets_len {prog : Program} {w : World} {d : Addr} (lo : (d == sysModules) = false) :
    MeetsIn prog w (Builtin.«dict.__len__» ⟨[.ref d], []⟩) (fun _ R s => ∃ es ep, RawAt s.heap d es ep ∧ R (.ok (.ret (.int es.size s.toks))) { s with toks := s.toks + 1 }) :=
  .of_wp fun A R s ⟨es, ep, ⟨o, ho, hc, hdat⟩, h⟩ => by
    show wpAny _ _ (dictSize d >>= _) _ _ s
    unfold dictSize
    refine wpAny_bind (wpAny_bind (wpAny_dictEntries ho hdat (wpAny_pure ?_)))
    show wpAny _ _ (Builtin.Dict.pendingCount d >>= _) _ _ s
    refine wpAny_bind (wpAny_pendingCount_other lo ?_)
    refine wpAny_ret_mkInt ?_
    rw [Nat.add_zero]; exact h
section
variable {prog : Program} {w : World} {A : Around} {E : Value → Shared → Prop} {s : Shared} {h₀ : Heap} {L d : Addr} {n : List (Addr × Obj)} {es : Array DictEntry} {ep : Nat} {o : Obj} {xs : List (List Int × Addr × Value)}
theorem raw_len_body {Q : Value → Shared → Prop} (lo : (d == sysModules) = false) (hm : RawAt s.heap d es ep) (hfit : (es.size : Int) < 2 ^ 63)
    (h : Q (.int es.size (s.toks + 1)) { s with toks := s.toks + 1 + 1 }) : wpAny (model prog w) A (Builtin.«len» ⟨[.ref d], []⟩) (fun fin s' => ∃ r, fin = .done (.ret r) ∧ Q r s') E s := by
  unfold Builtin.«len»
  refine wpAny_bind (m := oneArg "len" _) (wpAny_pure ?_)
  refine wpAny_bind (m := callSpecial? (.ref d) (Str.ofString "__len__")) (wpAny_callSpecial?_slot (name := Str.ofString "__len__") hm.typeIs F.slot_dict_len
    (call_meetsIn F.slot_dict_len hm.typeIs F.entry_dict_len (F.args_dict_len_1 _) (raw_meets_len lo) ⟨es, ep, hm, ?_⟩))
  show wpAny _ _ _ _ _ { s with toks := s.toks + 1 }
  refine wpAny_bind (wpAny_holding (wpAny_pure ?_))
  refine wpAny_bind (wpAny_letGo ?_)
  show wpAny _ _ (if ((es.size : Nat) : Int) < 0 then _ else _) _ _ _
  rw [if_neg (by omega)]
  show wpAny _ _ (if ((es.size : Nat) : Int) ≥ 2 ^ 63 then _ else _) _ _ _
  rw [if_neg (by omega)]
  exact wpAny_bind (wpAny_mkInt (wpAny_pure ⟨_, rfl, h⟩))
theorem raw_len {Q : Value → Shared → Prop} (lo : (d == sysModules) = false) (hm : RawAt s.heap d es ep) (hfit : (es.size : Int) < 2 ^ 63)
    (h : Q (.int es.size (s.toks + 1)) { s with toks := s.toks + 1 + 1 }) : wpAny (model prog w) A (call (.builtin "len") [.ref d]) Q E s :=
  Calls.call_function_entry kind_len plain_len entry_len (args_len1 _) (raw_len_body lo hm hfit h)
theorem h_len {Q : Value → Shared → Prop} {fs : List (Nat × Nat)} (N : News h₀ L s.heap n) (hm : (d, o) ∈ n) (hd : HDict prog w o xs) (lo : (d == sysModules) = false) (hA : All2 (KIn n) xs fs) (hsz : fs.length ≤ 1000000)
    (h : Q (.int (fs.length : Int) (s.toks + 1)) { s with toks := s.toks + 1 + 1 }) : wpAny (model prog w) A (call (.builtin "len") [.ref d]) Q E s := by
  obtain ⟨es, ep, h1, h2, h3, _⟩ := h_entries hd
  have e : es.size = fs.length := by rw [h3, hA.length]
  refine raw_len lo ⟨o, (N _ hm).1, h1, h2⟩ (by omega) ?_
  rw [e]; exact h
end
namespace All2
variable {α β : Type} {R : α → β → Prop}
theorem take {as : List α} {bs : List β} (h : All2 R as bs) : ∀ k, All2 R (as.take k) (bs.take k) := by
  induction h with
  | nil => intro k; cases k <;> exact .nil
  | cons r _ ih =>
    intro k
    cases k with
    | zero => exact .nil
    | succ k => exact .cons r (ih k)
theorem drop {as : List α} {bs : List β} (h : All2 R as bs) : ∀ k, All2 R (as.drop k) (bs.drop k) := by
  induction h with
  | nil => intro k; cases k <;> exact .nil
  | cons r t ih =>
    intro k
    cases k with
    | zero => exact .cons r t
    | succ k => exact ih k
end All2
end
section
set_option maxRecDepth 100000
section
variable {prog : Program} {w : World} {A : Around} {E : Value → Shared → Prop} {s : Shared} {h₀ : Heap} {L e t d : Addr} {m : Str → Option Value} {rest : List (Addr × Obj)} {v : Value} {name : Str}
theorem set_exc0 {Q : Unit → Shared → Prop} (Fm : Fr h₀ L s.heap m) (X : (hd.heap_1 w.params).In s.heap) (N : News h₀ L s.heap ((e, excO t none) :: rest)) (ne : ∀ p ∈ rest, p.1 ≠ e) (hn : findIn (hd.heap_1 w.params) (.ref 118) name = some none)
    (h : ∀ h' d tk tk', Fr h₀ L h' m → News h₀ L h' ((e, excO t (some d)) :: (d, dictOf [⟨PyData.keyHash w.params name, .str name tk, v⟩] 1) :: rest) → (∀ p ∈ rest, p.1 ≠ e) → (∀ p ∈ rest, p.1 ≠ d) → d ≠ e → Q () { s with heap := h', toks := tk' }) :
    wpAny (model prog w) A (setAttr (.ref e) name v) Q E s := by
  have he := (N _ (.head _)).1
  have I : InstAt s.heap e (excO t none) 118 none := ⟨he, rfl, rfl, trivial⟩
  refine set_plain X I rfl (osa_bad X I hn fun b => ?_)
  have hC := X 118 _ rfl
  obtain ⟨hp, g, dr, tk, os⟩ := s
  unfold PySem.Builtin.ObjectAttr.storeInOwnDict
  wp_walk
  have hlt := Heap.lt_size he
  have N1 : News h₀ L (hp.push (dictOf [] 0)) ([] ++ (e, excO t none) :: (hp.objs.size, dictOf [] 0) :: rest) := fun p hq => by
    have := News.push Fm N (dictOf [] 0)
    rcases List.mem_cons.mp hq with rfl | hq
    · exact this _ (.tail _ (.head _))
    · rcases List.mem_cons.mp hq with rfl | hq
      · exact this _ (.head _)
      · exact this _ (.tail _ (.tail _ hq))
  have ne' : ∀ p ∈ (hp.objs.size, dictOf [] 0) :: rest, p.1 ≠ e := fun p hq => by
    rcases List.mem_cons.mp hq with rfl | hq
    · exact Nat.ne_of_gt hlt
    · exact ne p hq
  obtain ⟨F2, N2⟩ := news_upd (f := fun o => { o with dict := some hp.objs.size }) (o' := excO t (some hp.objs.size)) (Fm.push _) N1 (fun _ hq => nomatch hq) ne' rfl rfl
  have hd2 := (N2 _ (.tail _ (.head _))).1
  have nd : ∀ p ∈ rest, p.1 ≠ hp.objs.size := fun p hq => Nat.ne_of_lt (Heap.lt_size (N p (.tail _ hq)).1)
  obtain ⟨F3, N3⟩ := news_upd (f := Obj.putName name (PyData.keyHash w.params name) (.str name (tk + 1)) v) (pre := [(e, excO t (some hp.objs.size))]) (post := rest) (o' := dictOf [⟨PyData.keyHash w.params name, .str name (tk + 1), v⟩] 1) F2 N2 (fun p hq => by rw [List.mem_singleton.mp hq]; exact Nat.ne_of_lt hlt) nd (by rw [putName_dict]; rfl) rfl
  refine wpAny_askSetting (wpAny_pure (wpAny_bind (wpAny_mkText (wpAny_bind (wpAny_loadPart hd2 ?_)))))
  dsimp only
  rw [if_neg (show ¬ (aRefKeyMayBeTheName name ([] : List DictEntry).toArray = true) by rw [aRefKeyMayBeTheName_at]; simp)]
  refine wpAny_updatePart hd2 ?_
  refine wpAny_bind (wpAny_lookBehind (N3 _ (.tail _ (.head _))).1 (pastItsLine_dict (by simp [sizeLine_eq])) ?_)
  exact wpAny_pure (h _ hp.objs.size (tk + 1) _ F3 N3 ne nd (Nat.ne_of_gt hlt))
theorem set_exc1 {Q : Unit → Shared → Prop} {name1 : Str} {tk1 : Tok} {v1 : Value} (Fm : Fr h₀ L s.heap m) (X : (hd.heap_1 w.params).In s.heap) (N : News h₀ L s.heap ((e, excO t (some d)) :: (d, dictOf [⟨PyData.keyHash w.params name1, .str name1 tk1, v1⟩] 1) :: rest)) (ne : ∀ p ∈ rest, p.1 ≠ e) (nd : ∀ p ∈ rest, p.1 ≠ d) (nde : d ≠ e)
    (hn : findIn (hd.heap_1 w.params) (.ref 118) name = some none) (hneq : (name1 == name) = false)
    (h : ∀ h' o tk', Fr h₀ L h' m → News h₀ L h' ((e, excO t (some d)) :: (d, o) :: rest) → Q () { s with heap := h', toks := tk' }) :
    wpAny (model prog w) A (setAttr (.ref e) name v) Q E s := by
  have he := (N _ (.head _)).1
  have hd := (N _ (.tail _ (.head _))).1
  have I : InstAt s.heap e (excO t (some d)) 118 (some (dictOf [⟨PyData.keyHash w.params name1, .str name1 tk1, v1⟩] 1)) := ⟨he, rfl, rfl, hd⟩
  refine set_plain X I rfl (osa_bad X I hn fun b => ?_)
  have hC := X 118 _ rfl
  obtain ⟨hp, g, dr, tk, os⟩ := s
  unfold PySem.Builtin.ObjectAttr.storeInOwnDict
  wp_walk
  obtain ⟨F3, N3⟩ := news_upd (f := Obj.putName name (PyData.keyHash w.params name) (.str name (tk + 1)) v) (pre := [(e, excO t (some d))]) (post := rest) (o' := dictOf [⟨PyData.keyHash w.params name1, .str name1 tk1, v1⟩, ⟨PyData.keyHash w.params name, .str name (tk + 1), v⟩] 2) Fm N (fun p hq => by rw [List.mem_singleton.mp hq]; exact Ne.symm nde) nd (by
    rw [putName_dict]
    have e1 : (Value.str name1 tk1).isStr name = false := hneq
    simp only [putL, putN, List.any_cons, List.any_nil, e1, Bool.or_false, Bool.false_eq_true, if_false]) rfl
  refine wpAny_askSetting (wpAny_pure (wpAny_bind (wpAny_mkText (wpAny_bind (wpAny_loadPart hd ?_)))))
  dsimp only
  rw [if_neg (show ¬ (aRefKeyMayBeTheName name ([⟨PyData.keyHash w.params name1, .str name1 tk1, v1⟩] : List DictEntry).toArray = true) by rw [aRefKeyMayBeTheName_at]; simp [DictEntry.refKey])]
  refine wpAny_updatePart hd ?_
  refine wpAny_bind (wpAny_lookBehind (N3 _ (.tail _ (.head _))).1 (pastItsLine_dict (by simp [sizeLine_eq])) ?_)
  exact wpAny_pure (h _ _ _ F3 N3)
end
end
section
structure CellMark : Prop where
structure AnyMark : Prop where
structure IfMark : Prop where
structure Halt (p : Prop) : Prop where
  out : p
theorem mid {α : Type} {M : Model} {A : Around} {E : Value → Shared → Prop} {s : Shared} {t : Sem α} {Q : α → Shared → Prop} (J : α → Heap → Prop) (h : wpAny M A t (fun v s' => Rest (∃ h' tk', s' = { s with heap := h', toks := tk' } ∧ J v h')) E s) (k : ∀ v h' tk', J v h' → Q v { s with heap := h', toks := tk' }) : wpAny M A t Q E s :=
  wpAny_mono h (fun v s' q => by obtain ⟨h', tk', e, j⟩ := q.out; rw [e]; exact k v h' tk' j) fun _ _ e => e
end
section
theorem words_X1_2 : True := by
  k_with_none
  k_with "m_mem" => first | assumption | exact List.Mem.head _ | (refine List.mem_cons_of_mem _ ?_; walk_at "m_mem") | (refine List.mem_append_left _ ?_; walk_at "m_mem") | (refine List.mem_append_right _ ?_; walk_at "m_mem") | (refine' Grow.mem ?q9mg _ ?q9mh; (case q9mg => with_reducible assumption); (case q9mh => walk_at "m_mem")) | fail "m_mem"
  k_with "m_below" => first | assumption | (refine tb_ltOf ?_; (try simp only [AllLt, and_true]); first | assumption | omega) | fail "m_below"
  k_with "m_grow" => first | exact Grow.refl _ | assumption | (refine' Grow.cons ?q9ml ?q9mg; (case q9ml => walk_at "m_below"); (case q9mg => walk_at "m_grow")) | (refine' Grow.trans ?q9mg ?q9mk; (case q9mk => assumption); (case q9mg => walk_at "m_grow")) | fail "m_grow"
  k_with "m_news" => first | k_asm | (refine' cb_drop ?q9mN ?q9mS; (case q9mN => assumption); (case q9mS => (intro _ _; walk_at "m_mem"))) | fail "m_news"
  k_with "m_enter" => (refine' code_def ?q9k1 ?q9k2 ?q9k3 ?q9k4 ?q9k5 ?q9kA ?q9kF ?q9kK ?q9k6 ?q9k7 ?q9k8 ?q9k9 ?q9kB ?_ ?q9c2 ?q9c3 ?q9c4 ?q9c5; (case q9kA => exact rfl); (case q9kF => exact rfl); (case q9kK => first | exact rfl | assumption); (case q9k1 => k_asm); (case q9k2 => k_asm); (case q9k3 => k_asm); (case q9k4 => k_asm); (case q9k5 => k_asm); (case q9k6 => k_is); (case q9k7 => k_is); (case q9k8 => ktr_room); (case q9k9 => exact BindsTo.of_eq rfl); (case q9c5 => decide); (case q9kB => exact locs rfl); (case q9c2 => exact rfl); (case q9c3 => exact rfl); (case q9c4 => exact rfl); k_whole; walk_at "m_z0")
  k_with "call ref" => (k_here; k_dflt (first
  | (refine' call_cls ?q9k1 ?q9k2 ?q9k3 ?q9k4 ?q9k5 ?q9k6 ?_; (case q9k1 => k_asm); (case q9k2 => k_asm); (case q9k3 => k_asm); (case q9k4 => k_is); (case q9k5 => k_is); (case q9k6 => k_is); k_whole; walk_at "m_z1")
  | (refine wpAny_call ?_; walk_at "m_enter")))
  k_with "setAttr ref" => (k_here; refine Halt.out ?_)
  k_with "m_start" => (with_reducible rename Frag.In _ _ => hK9; revert hK9; k_fill; intro hK9)
  trivial
theorem exc_ledger {h₀ h h' : Heap} {L e : Addr} {m : Str → Option Value} {news : List (Addr × Obj)} {cls : Value} {args : List Value} (F : Fr h₀ L h m) (N : News h₀ L h news) (x : Heap.MadeExcOf h h' e cls args) :
    ∃ t, Fr h₀ L h' m ∧ News h₀ L h' ((e, { cls := cls, data := .fields #[.ref t, .none, .none, .none, .bool false, .none] }) :: (t, tupO args 0) :: news) ∧ (∀ p ∈ (t, tupO args 0) :: news, p.1 ≠ e) := by
  obtain ⟨t, he, ht, htt⟩ := x.there
  have nb : ∀ b, h.get? b = none → h₀.get? b = none := fun b hb => by
    cases q : h₀.get? b with
    | none => rfl
    | some o => have := F.keep b o q; rw [hb] at this; cases this
  have nL : ∀ b, h.get? b = none → b ≠ L := fun b hb q => by
    obtain ⟨o, _, _, hL, _⟩ := F.ns
    rw [q, hL] at hb; cases hb
  refine ⟨t, F.keeps x.keeps, ?_, ?_⟩
  · intro p hp
    rcases List.mem_cons.mp hp with rfl | hp
    · exact ⟨he, nL _ x.new, nb _ x.new⟩
    · rcases List.mem_cons.mp hp with rfl | hp
      · exact ⟨htt, nL _ ht, nb _ ht⟩
      · exact ⟨x.keeps _ _ (N p hp).1, (N p hp).2⟩
  · intro p hp q
    rcases List.mem_cons.mp hp with rfl | hp
    · have q' : t = e := q
      rw [q', he] at htt
      cases cls <;> simp at htt
    · have := (N p hp).1
      rw [q, x.new] at this; cases this
set_option maxRecDepth 100000 in
set_option maxHeartbeats 8000000 in
theorem c_badcode {w : World} {mean : ExcName → Option Value} {mg mb : Str → Option Value} {dp un : Nat} {gd : Option (List Code)} {cn : Str} {cs : Scope} {a : Addr} {ccd : Value} {cl : List (Str × Addr)} {outer : List Env} {A₀ : Around} {base h₀ : Heap} {L : Addr} {m : Str → Option Value} {news : List (Addr × Obj)} {s : Shared} {Q E : Value → Shared → Prop} {x : Str} {tx tz : Tok} {z : Int}
    (hB : Below A₀ base outer h₀) (hF : Fr h₀ L s.heap m) (hK : (hd.heap_1 w.params).In h₀) (hN : News h₀ L s.heap news) (hT : Top seenText (looseW seenText [Str.ofString "OPERATIONS", Str.ofString "LAST_OPS", Str.ofString "QUIET_OPS"]) mean mg mb h₀) (hkd : cs.kind = .function) (hdp : dp + 6 < recursionLimit) (hun : un + 60 < cLine) 
    (hret : ∀ e t d h' tk' n', Fr h₀ L h' m → News h₀ L h' n' → (∀ p ∈ news, p ∈ n' ∧ p.1 ≠ e) → (e, excO t (some d)) ∈ n' → Q (.ref e) { s with heap := h', toks := tk' }) :
    wpAny (model Challenge.rw_sm0039_01.row.prog w) (ktrTop dp un gd cn cs L a ccd cl outer) (call (.ref 118) [.str x tx, .int z tz]) Q E s := by
  revert hK; k_fill; intro hK
  obtain ⟨hp, g, d, t, os⟩ := s
  have X := hK.keeps hF.keep
  have hC := X 118 _ rfl
  refine wpAny_call_exc_init F.excBase_Exception (mN := _) hC ⟨_, _, _, X 117 _ rfl, rfl, ?n1, fun _ => rfl⟩ (fI := 115) ?n2 (X 115 _ rfl) rfl ?_ ?n3
  case n1 =>
    intro en hen
    simp only [List.mem_toArray, List.mem_cons, List.not_mem_nil, or_false] at hen
    rcases hen with rfl | rfl | rfl | rfl | rfl | rfl <;> exact ⟨_, _, rfl⟩
  case n2 => rfl
  case n3 => rw [sizeLine_eq]; show 2 ≤ 16777216; decide
  intro h' e hm
  obtain ⟨t0, F1, N1, ne1⟩ := exc_ledger hF hN hm
  refine wpAny_call ?_
  k_dflt (walk_at "m_enter")
  k_steps
  with_reducible rename Fr _ _ _ _ => lF
  with_reducible rename News _ _ _ _ => lN
  with_reducible rename Frag.In _ _ => lX
  refine method_type (T := "Exception") lF lX (by first | rfl | kernel_rfl) (by decide +kernel) (by k_is) rfl ?_
  k_steps
  with_reducible rename News _ _ _ _ => lN1
  with_reducible rename Fr _ _ _ _ => lF1
  refine exc_init_call lF1 (lX.keeps lF1.keep) lN1 ne1 ?_
  intro h1 t1 F2 N2 ne2
  (try dsimp only)
  k_steps
  refine ⟨?_⟩
  with_reducible rename News _ _ _ _ => lN2
  with_reducible rename Fr _ _ _ _ => lF2
  refine set_exc0 lF2 (lX.keeps lF2.keep) lN2 ne2 (by k_is) ?_
  intro h2 d2 k2 tk2 F3 N3 ne3 nd3 nde3
  (try dsimp only)
  k_steps
  refine ⟨?_⟩
  with_reducible rename News _ _ _ _ => lN3
  with_reducible rename Fr _ _ _ _ => lF3
  refine set_exc1 lF3 (lX.keeps lF3.keep) lN3 ne3 nd3 nde3 (by k_is) (by decide +kernel) ?_
  intro h3 o3 tk3 F4 N4
  (try dsimp only)
  k_steps
  exact hret e t1 d2 _ _ _ (by k_asm) (by k_asm) (fun p hp => ⟨.tail _ (.tail _ (.tail _ (.tail _ hp))), ne1 p (.tail _ hp)⟩) (.head _)
end
section
set_option maxRecDepth 100000
/-- a def that catches is left: as ever, or in a heap of which only the ground is known -/
structure LeaveT (h₀ : Heap) (L : Addr) (m : Str → Option Value) (g : Heap) (R : Result → Shared → Prop) (v : Value) (s' : Shared) : Prop where
  out : LeaveK h₀ L m g R v s' ∨ R (.ok (.ret v)) s'
section
variable {prog : Program} {w : World} {A₀ A : Around} {s : Shared} {base h₀ : Heap} {outer : List Env} {L : Addr} {m : Str → Option Value} {news : List (Addr × Obj)} {K : Frag} {p : Program} {loose : List Str} {mean : ExcName → Option Value} {mg mb : Str → Option Value}
theorem code_try {env : Env} {R : Result → Shared → Prop} {name qual : Str} {params : Arguments} {body : List Stmt} {scope : Scope} {dV kV doc pm cdv ct oc : Value} {an od : Option Addr} {osl : Array (Option Value)} {f : Addr} {args : Args} {binds : List (Str × Value)}
    (B : Below A₀ base outer h₀) (F : Fr h₀ L s.heap m) (X₀ : K.In h₀) (N : News h₀ L s.heap news) (T : Top p loose mean mg mb h₀) (hA : A.frames = some (env :: outer)) (hf : env.frame = some L) (hke : env.scope.kind = .function)
    (ho : K.lookup f = some ⟨oc, od, .func (fnOf name qual params body scope dV kV doc pm an cdv ct), osl⟩) (hcd : codeIn K cdv qual = true) (hroom : A.depth < recursionLimit)
    (hbind : BindsTo s (fnOf name qual params body scope dV kV doc pm an cdv ct) args binds) (hloc : ∀ y ∈ binds, scope.names.lookup y.1 = some .local)
    (h : ∀ g L' h₁, Fr h₀ L g m → Fr g L' h₁ (fun y => binds.reverse.lookup y) → News g L' h₁ news → Below A base (env :: outer) g → K.In g → Top p loose mean mg mb g →
      wpAny (model prog w) (A.deeper (envOf qual scope L' f cdv)) (execs body (envOf qual scope L' f cdv))
        (fun fl s' => LeaveT h₀ L m g R (match fl with | .ret v => v | _ => .none) s')
        (fun e s' => wpAny (model prog w) (A.deeper (envOf qual scope L' f cdv)) (leaving (envOf qual scope L' f cdv) e) (fun _ s'' => R (.error e) s'') (fun e' s'' => R (.error e') s'') s')
        { s with heap := h₁, toks := s.toks + binds.length })
    (hco : scope.isCoroutine = false) (hgen : scope.isGenerator = false) (hk : scope.kind = .function)
    (hcell : ∀ x ∈ scope.names, x.2 ≠ .cell) : codeAny (model prog w) A (.call (.ref f) args) R s := by
  have X := X₀.keeps F.keep
  obtain ⟨FG, BG, st, lv⟩ := groundX (R := R) B F N hA hf hke
  refine codeAny_call_def (fd := fnOf name qual params body scope dV kV doc pm an cdv ct) (body := body) (binds := binds) hroom (X _ _ ho) rfl (T.nolimit.keeps F.keep) (codeRec_of X hcd) rfl hbind hcell hloc (fun h₁ hns hk₁ => ?_) hco hgen hk
  exact wpAny_mono (h _ s.heap.objs.size h₁ FG ⟨hns, fun b o e => hk₁ b o (of_hideAll _ e), Nat.le_of_eq (hideAll_size _ _)⟩
    (fun p hp => ⟨hk₁ _ _ (N p hp).1, Nat.ne_of_lt (Heap.lt_size (N p hp).1), hideAll_none _ (List.mem_map_of_mem hp)⟩) BG (X₀.keeps st) (T.keeps st)) (fun fl s' hl => hl.out.elim (fun y => lv _ _ y) fun y => y) fun _ _ y => y
end
section
variable {prog : Program} {w : World} {A₀ : Around} {E : Value → Shared → Prop} {s' : Shared} {h₀ h : Heap} {outer : List Env} {L a e : Addr} {m : Str → Option Value} {name : Str} {scope : Scope} {cd : Value}
  {b₀ : Stmt} {suite : List Stmt} {pos np : Pos} {rest : List ExceptHandler} {Q : Flow → Shared → Prop} {news : List (Addr × Obj)} {KF : Frag}
  {p : Program} {loose : List Str} {mean : ExcName → Option Value} {mg mb : Str → Option Value} {x : Str}
theorem caught_bad (hfr : A₀.frames = some outer) (F : Fr h₀ L h m) (hsm : h.UpToSlots s'.heap) (R : BadFly h₀ (envOf name scope L a cd :: outer) e news s'.heap) (X : KF.In h₀) (T : Top p loose mean mg mb h₀)
    (hc : KtsName KF x (.ref 118)) (he : exmOne KF (.ref 118) (.ref 118) = some true)
    (k : ∀ h', Fr h₀ L h' m → (∀ q ∈ news, h'.get? q.1 = some q.2) → s'.heap.UpToSlots h' → h₀.StaysIn h' →
      wpAny (model prog w) ((A₀.deeper (envOf name scope L a cd)).mark (some (.ref e))) (execs (b₀ :: suite) (envOf name scope L a cd)) Q E { s' with heap := h' })
    (hk : scope.kind = .function := by rfl) (hx : (envOf name scope L a cd).kindOf x = some .globalImplicit := by rfl) (hd : (x == ("__debug__" : Str)) = false := by decide)
    (hE : PassesOwnAt (model prog w) ((A₀.deeper (envOf name scope L a cd)).mark (some (.ref e))) (A₀.deeper (envOf name scope L a cd)) (envOf name scope L a cd) E := by passes_own) :
    wpAny (model prog w) (A₀.deeper (envOf name scope L a cd)) (noteFrame (.ref e) (envOf name scope L a cd))
      (fun _ s₂ => wpAny (model prog w) (A₀.deeper (envOf name scope L a cd)) (setFlight (.ref e) none) (fun _ s₃ =>
        wpAny (model prog w) (A₀.deeper (envOf name scope L a cd)) (handleBy (.ref e) (envOf name scope L a cd) (.ExceptHandler (some (.Name x np)) none (b₀ :: suite) pos :: rest)) Q E s₃) E s₂) E s' := by
  obtain ⟨B, a0, hB, hl, hfl⟩ := R
  refine wpAny_looks_onW (Around.frames_deeper hfr) rfl hfl fun h₄ hheld₄ hsm₄ => ?_
  refine wpAny_landsW hheld₄ fun h₅ hheld hsm₅' => ?_
  have hsm₅ := hsm₄.trans hsm₅'
  have hheld' := flyingW_base hB hheld
  have F₅ := F.of_stays hheld'.1 (hsm.trans hsm₅)
  have ty : Looks (model prog w) h₅ (typeOf (.ref e)) (.ref 118) := by
    obtain ⟨ob, hob, hcl⟩ := hheld.there
    rw [← hcl]
    exact (Looks.ld hob).andThen .now
  refine wpAny_handleBy_cons (codeAny_handlers_test (test_name hc he hk hx hd _ _ _ _ h₀ e m F₅ X (topRead_of T) ty fun h₅' kp => ?_)) (by intro q; cases q)
  refine codeAny_handlers_suite ?_
  have hheld2 := flying_keeps hheld kp
  refine lands_againW hheld2 fun h₆ hfl₆ hsm₆ => ?_
  have hsm : s'.heap.UpToSlots h₆ := hsm₅.trans ((Heap.UpToSlots.of_keeps kp).trans hsm₆)
  have st : h₀.StaysIn h₆ := (flyingW_base hB hfl₆).1
  exact wpAny_passesOwnAt hE (k h₆ (F.of_stays st (‹h.UpToSlots s'.heap›.trans hsm)) (fun q hq => hfl₆.1 _ _ (hl q hq).1) hsm st)
end
end
section
theorem words_L1_3 : True := by
  k_with_none
  k_with "m_mem" => first | assumption | exact List.Mem.head _ | (refine List.mem_cons_of_mem _ ?_; walk_at "m_mem") | (refine List.mem_append_left _ ?_; walk_at "m_mem") | (refine List.mem_append_right _ ?_; walk_at "m_mem")
  k_with "m_enter" => (refine' code_def ?q9k1 ?q9k2 ?q9k3 ?q9k4 ?q9k5 ?q9kA ?q9kF ?q9kK ?q9k6 ?q9k7 ?q9k8 ?q9k9 ?q9kB ?_ ?q9c2 ?q9c3 ?q9c4 ?q9c5; (case q9kA => exact rfl); (case q9kF => exact rfl); (case q9kK => first | exact rfl | assumption); (case q9k1 => k_asm); (case q9k2 => k_asm); (case q9k3 => k_asm); (case q9k4 => k_asm); (case q9k5 => k_asm); (case q9k6 => k_is); (case q9k7 => k_is); (case q9k8 => ktr_room); (case q9k9 => exact BindsTo.of_eq rfl); (case q9c5 => decide); (case q9kB => exact locs rfl); (case q9c2 => exact rfl); (case q9c3 => exact rfl); (case q9c4 => exact rfl); k_whole; walk_at "m_z0")
  k_with "call ref" => (k_here; k_dflt (first
  | (refine' call_cls ?q9k1 ?q9k2 ?q9k3 ?q9k4 ?q9k5 ?q9k6 ?_; (case q9k1 => k_asm); (case q9k2 => k_asm); (case q9k3 => k_asm); (case q9k4 => k_is); (case q9k5 => k_is); (case q9k6 => k_is); k_whole; walk_at "m_z1")
  | (refine wpAny_call ?_; walk_at "m_enter")))
  k_with "m_start" => (with_reducible rename Frag.In _ _ => hK9; revert hK9; k_fill; intro hK9)
  trivial
set_option maxRecDepth 100000 in
theorem opers_tab (P : Params) (i : Ins) : ∃ its n x nm t1 t2 t3 t4, (hd.heap_1 P).lookup 100 = some { cls := .type "list", data := .seq its n } ∧ its[i.op.toNat]? = some (.ref x) ∧
    (hd.heap_1 P).lookup x = some (tupO [.str nm t1, .str i.kind t2, .int (i.taken : Int) t3, .int (i.put : Int) t4] 0) := by
  cases i <;> exact ⟨_, _, _, _, _, _, _, _, rfl, rfl, rfl⟩
theorem op_range (i : Ins) : 0 ≤ i.op ∧ i.op < 85 := by cases i <;> (constructor <;> simp [Ins.op])
theorem kind_n (i : Ins) : (i.kind == Str.ofString "n") = false := by cases i <;> simp only [Ins.kind, Ins.jump] <;> decide
theorem last_in {prog : Program} {w : World} {A : Around} {E : Value → Shared → Prop} {s : Shared} {Q : Value → Shared → Prop} {u : Tok} {i : Ins} {h₀ : Heap} {L : Addr} {m : Str → Option Value}
    (F : Fr h₀ L s.heap m) (X : (hd.heap_1 w.params).In h₀) (h : Q (.bool i.last) s) : wpAny (model prog w) A (compareOp .In (.int i.op u) (.ref 101)) Q E s := by
  have hl : s.heap.IsList 101 ([.int 58 235, .int 65 245, .int 66 247, .int 79 263, .int 83 267] : List Value).toArray := ⟨_, F.keep _ _ (X 101 _ rfl), rfl, 0, rfl⟩
  refine in_list_ints hl (ns := [58, 65, 66, 79, 83]) ?_ ?_
  · repeat (first | exact IntsAre.nil | refine IntsAre.cons _ _ ?_)
  · have e : ([58, 65, 66, 79, 83].any (· == i.op)) = i.last := by cases i <;> rfl
    rw [e]; exact h
theorem words_L1_4 : True := by
  k_with "compareOp In int ref" => (k_here; (with_reducible show wpAny _ _ (compareOp CmpOp.In (Value.int (Ins.op _) _) (Value.ref 101)) _ _ _); (refine' last_in ?q9k1 ?q9k2 ?_; (case q9k1 => k_asm); (case q9k2 => k_asm); k_whole))
  trivial
theorem op_item {prog : Program} {w : World} {A : Around} {E : Value → Shared → Prop} {s : Shared} {value slice : PySem.Expr} {Q : Value → Shared → Prop} {u : Tok} {i : Ins} {h₀ : Heap} {L : Addr} {m : Str → Option Value}
    (F : Fr h₀ L s.heap m) (X : (hd.heap_1 w.params).In h₀) (h : ∀ x nm t1 t2 t3 t4, IsTup s.heap x ([.str nm t1, .str i.kind t2, .int (i.taken : Int) t3, .int (i.put : Int) t4] : List Value).toArray → Q (.ref x) s)
    (hs : subscripted slice false (.ref 100) (.int i.op u) = operate [.ref 100, .int i.op u] (getItem (.ref 100) (.int i.op u)) := by with_unfolding_all rfl) :
    wpAny (model prog w) A (subscriptTail value slice (.ref 100) (.int i.op u)) Q E s := by
  obtain ⟨its, n, x, nm, t1, t2, t3, t4, h1, h2, h3⟩ := opers_tab w.params i
  have hr := op_range i
  have hl : s.heap.IsList 100 its := ⟨_, F.keep _ _ (X _ _ h1), rfl, n, rfl⟩
  exact tail_any hl.typeIs slot_list_getitem.lookup (wpAny_getItem_list hl hr.1 (by omega) h2 (h x nm t1 t2 t3 t4 ⟨_, F.keep _ _ (X _ _ h3), rfl, 0, rfl⟩)) hs
theorem words_L1_5 : True := by
  k_with "subscriptTail" => (k_here; (with_reducible show wpAny _ _ (subscriptTail _ _ (Value.ref 100) (Value.int (Ins.op _) _)) _ _ _); (with_unfolding_all refine' op_item ?q9k1 ?q9k2 ?_ ?q9k3; (case q9k1 => k_asm); (case q9k2 => k_asm); (case q9k3 => with_unfolding_all rfl); k_whole); intro _ _ _ _ _ _ _)
  trivial
set_option maxRecDepth 100000 in
set_option maxHeartbeats 8000000 in
theorem c_arg_kind {w : World} {mean : ExcName → Option Value} {mg mb : Str → Option Value} {dp un : Nat} {gd : Option (List Code)} {cn : Str} {cs : Scope} {a : Addr} {ccd : Value} {cl : List (Str × Addr)} {outer : List Env} {A₀ : Around} {base h₀ : Heap} {L : Addr} {m : Str → Option Value} {news : List (Addr × Obj)} {s : Shared} {Q E : Value → Shared → Prop} {i : Ins} {t : Tok} {kk : Str}
    (hB : Below A₀ base outer h₀) (hF : Fr h₀ L s.heap m) (hK : (hd.heap_1 w.params).In h₀) (hN : News h₀ L s.heap news) (hT : Top seenText (looseW seenText [Str.ofString "OPERATIONS", Str.ofString "LAST_OPS", Str.ofString "QUIET_OPS"]) mean mg mb h₀) (hkd : cs.kind = .function) (hdp : dp + 2 < recursionLimit) (hun : un + 20 < cLine) (hkk : i.kind = kk)
    (hret : ∀ t' h' tk', Fr h₀ L h' m → News h₀ L h' news → Q (.str kk t') { s with heap := h', toks := tk' }) :
    wpAny (model Challenge.rw_sm0039_01.row.prog w) (ktrTop dp un gd cn cs L a ccd cl outer) (call (.ref 149) [.int i.op t]) Q E s := by
  subst hkk
  walk_at "m_start"
  refine wpAny_call ?_
  k_dflt (walk_at "m_enter")
  k_steps
  all_goals (first | exact hret _ _ _ (by k_asm) (by k_asm) | exact hret _ _ (by k_asm) (by k_asm) | (have hn := kind_n i; simp_all; done) | trace_state)
set_option maxRecDepth 100000 in
set_option maxHeartbeats 8000000 in
theorem c_put_count {w : World} {mean : ExcName → Option Value} {mg mb : Str → Option Value} {dp un : Nat} {gd : Option (List Code)} {cn : Str} {cs : Scope} {a : Addr} {ccd : Value} {cl : List (Str × Addr)} {outer : List Env} {A₀ : Around} {base h₀ : Heap} {L : Addr} {m : Str → Option Value} {news : List (Addr × Obj)} {s : Shared} {Q E : Value → Shared → Prop} {i : Ins} {t : Tok}
    (hB : Below A₀ base outer h₀) (hF : Fr h₀ L s.heap m) (hK : (hd.heap_1 w.params).In h₀) (hN : News h₀ L s.heap news) (hT : Top seenText (looseW seenText [Str.ofString "OPERATIONS", Str.ofString "LAST_OPS", Str.ofString "QUIET_OPS"]) mean mg mb h₀) (hkd : cs.kind = .function) (hdp : dp + 2 < recursionLimit) (hun : un + 20 < cLine) 
    (hret : ∀ t' h' tk', Fr h₀ L h' m → News h₀ L h' news → Q (.int (i.put : Int) t') { s with heap := h', toks := tk' }) :
    wpAny (model Challenge.rw_sm0039_01.row.prog w) (ktrTop dp un gd cn cs L a ccd cl outer) (call (.ref 163) [.int i.op t]) Q E s := by
  walk_at "m_start"
  refine wpAny_call ?_
  k_dflt (walk_at "m_enter")
  k_steps
  all_goals (first | exact hret _ _ _ (by k_asm) (by k_asm) | exact hret _ _ (by k_asm) (by k_asm) | (have hn := kind_n i; simp_all; done) | trace_state)
set_option maxRecDepth 100000 in
set_option maxHeartbeats 8000000 in
theorem c_taken_count {w : World} {mean : ExcName → Option Value} {mg mb : Str → Option Value} {dp un : Nat} {gd : Option (List Code)} {cn : Str} {cs : Scope} {a : Addr} {ccd : Value} {cl : List (Str × Addr)} {outer : List Env} {A₀ : Around} {base h₀ : Heap} {L : Addr} {m : Str → Option Value} {news : List (Addr × Obj)} {s : Shared} {Q E : Value → Shared → Prop} {i : Ins} {t : Tok} {av : Value}
    (hB : Below A₀ base outer h₀) (hF : Fr h₀ L s.heap m) (hK : (hd.heap_1 w.params).In h₀) (hN : News h₀ L s.heap news) (hT : Top seenText (looseW seenText [Str.ofString "OPERATIONS", Str.ofString "LAST_OPS", Str.ofString "QUIET_OPS"]) mean mg mb h₀) (hkd : cs.kind = .function) (hdp : dp + 2 < recursionLimit) (hun : un + 20 < cLine) 
    (hret : ∀ t' h' tk', Fr h₀ L h' m → News h₀ L h' news → Q (.int (i.taken : Int) t') { s with heap := h', toks := tk' }) :
    wpAny (model Challenge.rw_sm0039_01.row.prog w) (ktrTop dp un gd cn cs L a ccd cl outer) (call (.ref 156) [.int i.op t, av]) Q E s := by
  walk_at "m_start"
  refine wpAny_call ?_
  k_dflt (walk_at "m_enter")
  k_steps
  all_goals (first | exact hret _ _ _ (by k_asm) (by k_asm) | exact hret _ _ (by k_asm) (by k_asm) | (have hn := kind_n i; simp_all; done) | trace_state)
set_option maxRecDepth 100000 in
set_option maxHeartbeats 8000000 in
theorem c_is_last {w : World} {mean : ExcName → Option Value} {mg mb : Str → Option Value} {dp un : Nat} {gd : Option (List Code)} {cn : Str} {cs : Scope} {a : Addr} {ccd : Value} {cl : List (Str × Addr)} {outer : List Env} {A₀ : Around} {base h₀ : Heap} {L : Addr} {m : Str → Option Value} {news : List (Addr × Obj)} {s : Shared} {Q E : Value → Shared → Prop} {i : Ins} {t : Tok}
    (hB : Below A₀ base outer h₀) (hF : Fr h₀ L s.heap m) (hK : (hd.heap_1 w.params).In h₀) (hN : News h₀ L s.heap news) (hT : Top seenText (looseW seenText [Str.ofString "OPERATIONS", Str.ofString "LAST_OPS", Str.ofString "QUIET_OPS"]) mean mg mb h₀) (hkd : cs.kind = .function) (hdp : dp + 2 < recursionLimit) (hun : un + 20 < cLine) 
    (hret : ∀ h' tk', Fr h₀ L h' m → News h₀ L h' news → Q (.bool i.last) { s with heap := h', toks := tk' }) :
    wpAny (model Challenge.rw_sm0039_01.row.prog w) (ktrTop dp un gd cn cs L a ccd cl outer) (call (.ref 170) [.int i.op t]) Q E s := by
  walk_at "m_start"
  refine wpAny_call ?_
  k_dflt (walk_at "m_enter")
  k_steps
  all_goals (first | exact hret _ _ _ (by k_asm) (by k_asm) | exact hret _ _ (by k_asm) (by k_asm) | (have hn := kind_n i; simp_all; done) | trace_state)
set_option maxRecDepth 100000 in
set_option maxHeartbeats 8000000 in
theorem c_is_count {w : World} {mean : ExcName → Option Value} {mg mb : Str → Option Value} {dp un : Nat} {gd : Option (List Code)} {cn : Str} {cs : Scope} {a : Addr} {ccd : Value} {cl : List (Str × Addr)} {outer : List Env} {A₀ : Around} {base h₀ : Heap} {L : Addr} {m : Str → Option Value} {news : List (Addr × Obj)} {s : Shared} {Q E : Value → Shared → Prop} {i : Int} {t : Tok}
    (hB : Below A₀ base outer h₀) (hF : Fr h₀ L s.heap m) (hK : (hd.heap_1 w.params).In h₀) (hN : News h₀ L s.heap news) (hT : Top seenText (looseW seenText [Str.ofString "OPERATIONS", Str.ofString "LAST_OPS", Str.ofString "QUIET_OPS"]) mean mg mb h₀) (hkd : cs.kind = .function) (hdp : dp + 2 < recursionLimit) (hun : un + 20 < cLine) 
    (hret : ∀ h' tk', Fr h₀ L h' m → News h₀ L h' news → Q (.bool (decide (0 ≤ i))) { s with heap := h', toks := tk' }) :
    wpAny (model Challenge.rw_sm0039_01.row.prog w) (ktrTop dp un gd cn cs L a ccd cl outer) (call (.ref 178) [.int i t]) Q E s := by
  walk_at "m_start"
  refine wpAny_call ?_
  k_dflt (walk_at "m_enter")
  k_steps
  all_goals (first | exact hret _ _ _ (by k_asm) (by k_asm) | exact hret _ _ (by k_asm) (by k_asm) | trace_state)
end
local macro_rules | `(tactic| walk_at "m_z2") => `(tactic| ((with_reducible rename Fr _ _ _ _ => lF'); (with_unfolding_all refine' For_turns lF' ?_; k_whole)))
section
theorem words_L3_7 : True := by
  k_with_none
  k_with "m_mem" => first | assumption | exact List.Mem.head _ | (refine List.mem_cons_of_mem _ ?_; walk_at "m_mem") | (refine List.mem_append_left _ ?_; walk_at "m_mem") | (refine List.mem_append_right _ ?_; walk_at "m_mem") | (refine' Grow.mem ?q9mg _ ?q9mh; (case q9mg => with_reducible assumption); (case q9mh => walk_at "m_mem")) | fail "m_mem"
  k_with "m_below" => first | assumption | (refine tb_ltOf ?_; (try simp only [AllLt, and_true]); first | assumption | omega) | fail "m_below"
  k_with "m_grow" => first | exact Grow.refl _ | assumption | (refine' Grow.cons ?q9ml ?q9mg; (case q9ml => walk_at "m_below"); (case q9mg => walk_at "m_grow")) | (refine' Grow.trans ?q9mg ?q9mk; (case q9mk => assumption); (case q9mg => walk_at "m_grow")) | fail "m_grow"
  k_with "m_news" => first | k_asm | (refine' cb_drop ?q9mN ?q9mS; (case q9mN => assumption); (case q9mS => (intro _ _; walk_at "m_mem"))) | fail "m_news"
  k_with "m_enter" => (refine' code_def ?q9k1 ?q9k2 ?q9k3 ?q9k4 ?q9k5 ?q9kA ?q9kF ?q9kK ?q9k6 ?q9k7 ?q9k8 ?q9k9 ?q9kB ?_ ?q9c2 ?q9c3 ?q9c4 ?q9c5; (case q9kA => exact rfl); (case q9kF => exact rfl); (case q9kK => first | exact rfl | assumption); (case q9k1 => k_asm); (case q9k2 => k_asm); (case q9k3 => k_asm); (case q9k4 => k_asm); (case q9k5 => k_asm); (case q9k6 => k_is); (case q9k7 => k_is); (case q9k8 => ktr_room); (case q9k9 => exact BindsTo.of_eq rfl); (case q9c5 => decide); (case q9kB => exact locs rfl); (case q9c2 => exact rfl); (case q9c3 => exact rfl); (case q9c4 => exact rfl); k_whole; walk_at "m_z0")
  k_with "call ref" => (k_here; k_dflt (first
  | (refine' call_cls ?q9k1 ?q9k2 ?q9k3 ?q9k4 ?q9k5 ?q9k6 ?_; (case q9k1 => k_asm); (case q9k2 => k_asm); (case q9k3 => k_asm); (case q9k4 => k_is); (case q9k5 => k_is); (case q9k6 => k_is); k_whole; walk_at "m_z1")
  | (refine wpAny_call ?_; walk_at "m_enter")))
  k_with "m_start" => (with_reducible rename Frag.In _ _ => hK9; revert hK9; k_fill; intro hK9)
  k_with "call ref" => (k_here; (with_reducible show wpAny _ _ (call (Value.ref 149) _) _ _ _); k_dflt (refine' c_arg_kind ?q9k1 ?q9k2 ?q9k3 ?q9k4 ?q9k5 ?q9kK ?q9kd ?q9ku ?q9kx ?_; (case q9k1 => k_asm); (case q9k2 => k_asm); (case q9k3 => k_asm); (case q9k4 => k_asm); (case q9k5 => k_asm); (case q9kK => first | exact rfl | assumption); (case q9kd => ktr_room); (case q9ku => ktr_units); (case q9kx => first | assumption | exact rfl);  k_whole); intro _ _ _ _ _; (try dsimp only); (try k_fold))
  k_with "call ref" => (k_here; (with_reducible show wpAny _ _ (call (Value.ref 178) _) _ _ _); k_dflt (refine' c_is_count ?q9k1 ?q9k2 ?q9k3 ?q9k4 ?q9k5 ?q9kK ?q9kd ?q9ku  ?_; (case q9k1 => k_asm); (case q9k2 => k_asm); (case q9k3 => k_asm); (case q9k4 => k_asm); (case q9k5 => k_asm); (case q9kK => first | exact rfl | assumption); (case q9kd => ktr_room); (case q9ku => ktr_units);  k_whole); intro _ _ _ _; (try dsimp only); (try k_fold))
  k_with "subscriptTail" => (k_here; (with_reducible show wpAny _ _ (subscriptTail _ _ (Value.ref _) (Value.int (Nat.cast (R := Int) _) _)) _ _ _); k_dflt (refine' code_item ?q9k1 ?q9k2 ?q9k3 ?q9k4 ?q9k5 ?q9k7 ?_ ?_ ?q9k6; (case q9k1 => k_asm); (case q9k3 => k_asm); (case q9k2 => walk_at "m_mem"); (case q9k4 => k_asm); (case q9k5 => k_asm); (case q9k7 => k_asm); (case q9k6 => with_unfolding_all rfl)) <;> (intros; (try k_fold)))
  k_with "call builtin:len" => (k_here; (with_reducible show wpAny _ _ (call (Value.builtin "len") [Value.ref _]) _ _ _); k_dflt (refine' all2_len ?q9k1 ?q9k2 ?q9k3 ?q9k4 ?_; (case q9k1 => k_asm); (case q9k2 => assumption); (case q9k3 => assumption); (case q9k4 => assumption); k_whole))
  k_with "exec For" => (k_here; walk_at "m_z2")
  k_with "exec For Name Attribute cons nil" => (k_here; walk_at "m_z2")
  k_with "exec For Name Name cons nil" => (k_here; walk_at "m_z2")
  k_with "exec For Tuple Call" => (k_here; walk_at "m_z2")
  k_with "exec For Tuple Name cons nil" => (k_here; walk_at "m_z2")
  k_with "exec For Name Call cons nil" => (k_here; walk_at "m_z2")
  k_with "last exec For" => (k_here; walk_at "m_z2")
  k_with "exec For Tuple Call cons nil" => (k_here; walk_at "m_z2")
  k_with "pyIter ref" => (k_here; (with_reducible show wpAny _ _ (pyIter (Value.ref _)) (fun it s₂ => TurnsAt _ _ _ _ _ _ _ _ _ it s₂) _ _); (with_unfolding_all refine' iter_listNil ?q9k1 ?q9k2 ?q9k3 ?q9k4 ?_; (case q9k1 => rfl); (case q9k2 => k_asm); (case q9k3 => k_asm); (case q9k4 => walk_at "m_mem"); k_whole); intro _ _ _ _; (try dsimp only); (try k_fold))
  k_with "call type:enumerate" => (k_here; (with_reducible show wpAny _ _ (call (Value.type _) [Value.ref _]) (fun xv s₁ => wpAny _ _ (pyIter xv) (fun it s₂ => TurnsAt _ _ _ _ _ _ _ _ _ it s₂) _ s₁) _ _); (with_unfolding_all refine' enum_nil ?q9k1 ?q9k2 ?q9k3 ?q9k4 ?_; (case q9k1 => rfl); (case q9k2 => k_asm); (case q9k3 => k_asm); (case q9k4 => walk_at "m_mem"); k_whole); intro _ _ _ _; (try dsimp only); (try k_fold))
  k_with "compareOp NotEq ref ref" => (k_here; (with_unfolding_all refine' ne_nils ?q9k1 ?q9k2 ?q9k3 ?q9k4 ?_; (case q9k1 => k_asm); (case q9k2 => walk_at "m_mem"); (case q9k3 => walk_at "m_mem"); (case q9k4 => ktr_units); k_whole))
  k_with "TurnPost" => (dsimp only [TurnPost])
  trivial
set_option maxRecDepth 100000 in
set_option maxHeartbeats 8000000 in
theorem c_check_head {w : World} {mean : ExcName → Option Value} {mg mb : Str → Option Value} {dp un : Nat} {gd : Option (List Code)} {cn : Str} {cs : Scope} {a : Addr} {ccd : Value} {cl : List (Str × Addr)} {outer : List Env} {A₀ : Around} {base h₀ : Heap} {L : Addr} {m : Str → Option Value} {news : List (Addr × Obj)} {s : Shared} {Q E : Value → Shared → Prop} {u d C : Addr} {k : Nat → Tok} {P cs' us hs ls cp pp : Addr} {vs : List Value} {kc : Nat} {code : List Ins}
    (hB : Below A₀ base outer h₀) (hF : Fr h₀ L s.heap m) (hK : (hd.heap_1 w.params).In h₀) (hN : News h₀ L s.heap news) (hT : Top seenText (looseW seenText [Str.ofString "OPERATIONS", Str.ofString "LAST_OPS", Str.ofString "QUIET_OPS"]) mean mg mb h₀) (hkd : cs.kind = .function) (hdp : dp + 4 < recursionLimit) (hun : un + 120 < cLine) (hU : UnitIn w news u d k P C cs' us hs ls cp pp) (hC : (C, listOf vs.toArray kc) ∈ news) (hA : All2 (InsIn news) vs code) (hpos : 0 < code.length) (hfit : code.length < 2 ^ 62)
    (hret : ∀ h' tk', Fr h₀ L h' m → News h₀ L h' news → Q (.none) { s with heap := h', toks := tk' }) :
    wpAny (model Challenge.rw_sm0039_01.row.prog w) (ktrTop dp un gd cn cs L a ccd cl outer) (call (.ref 206) [.ref u]) Q E s := by
  obtain ⟨hu1, hu2, hu3, hu4, hu5, hu6, hu7⟩ := hU
  walk_at "m_start"
  refine wpAny_call ?_
  k_dflt (walk_at "m_enter")
  k_steps
  all_goals (first | exact hret _ _ (by k_asm) (by walk_at "m_news") | (exfalso; omega) | trace_state)
set_option maxRecDepth 100000 in
set_option maxHeartbeats 8000000 in
theorem c_check_handlers {w : World} {mean : ExcName → Option Value} {mg mb : Str → Option Value} {dp un : Nat} {gd : Option (List Code)} {cn : Str} {cs : Scope} {a : Addr} {ccd : Value} {cl : List (Str × Addr)} {outer : List Env} {A₀ : Around} {base h₀ : Heap} {L : Addr} {m : Str → Option Value} {news : List (Addr × Obj)} {s : Shared} {Q E : Value → Shared → Prop} {u d C : Addr} {k : Nat → Tok} {P cs' us hs ls cp pp : Addr} {vs : List Value} {kc : Nat} {code : List Ins}
    (hB : Below A₀ base outer h₀) (hF : Fr h₀ L s.heap m) (hK : (hd.heap_1 w.params).In h₀) (hN : News h₀ L s.heap news) (hT : Top seenText (looseW seenText [Str.ofString "OPERATIONS", Str.ofString "LAST_OPS", Str.ofString "QUIET_OPS"]) mean mg mb h₀) (hkd : cs.kind = .function) (hdp : dp + 4 < recursionLimit) (hun : un + 40 < cLine) (hU : UnitIn w news u d k P C cs' us hs ls cp pp) (hC : (C, listOf vs.toArray kc) ∈ news) (hA : All2 (InsIn news) vs code) (hpos : 0 < code.length) (hfit : code.length < 2 ^ 62)
    (hret : ∀ h' tk', Fr h₀ L h' m → News h₀ L h' news → Q (.none) { s with heap := h', toks := tk' }) :
    wpAny (model Challenge.rw_sm0039_01.row.prog w) (ktrTop dp un gd cn cs L a ccd cl outer) (call (.ref 220) [.ref u]) Q E s := by
  obtain ⟨hu1, hu2, hu3, hu4, hu5, hu6, hu7⟩ := hU
  walk_at "m_start"
  refine wpAny_call ?_
  k_dflt (walk_at "m_enter")
  k_steps
  all_goals (first | exact hret _ _ (by k_asm) (by walk_at "m_news") | trace_state)
set_option maxRecDepth 100000 in
set_option maxHeartbeats 8000000 in
theorem c_ways_thrown {w : World} {mean : ExcName → Option Value} {mg mb : Str → Option Value} {dp un : Nat} {gd : Option (List Code)} {cn : Str} {cs : Scope} {a : Addr} {ccd : Value} {cl : List (Str × Addr)} {outer : List Env} {A₀ : Around} {base h₀ : Heap} {L : Addr} {m : Str → Option Value} {news : List (Addr × Obj)} {s : Shared} {Q E : Value → Shared → Prop} {u d C : Addr} {k : Nat → Tok} {P cs' us hs ls cp pp : Addr} {vs : List Value} {kc : Nat} {code : List Ins} {pc : Nat} {t : Tok} {i : Ins} {sv : Value}
    (hB : Below A₀ base outer h₀) (hF : Fr h₀ L s.heap m) (hK : (hd.heap_1 w.params).In h₀) (hN : News h₀ L s.heap news) (hT : Top seenText (looseW seenText [Str.ofString "OPERATIONS", Str.ofString "LAST_OPS", Str.ofString "QUIET_OPS"]) mean mg mb h₀) (hkd : cs.kind = .function) (hdp : dp + 4 < recursionLimit) (hun : un + 40 < cLine) (hU : UnitIn w news u d k P C cs' us hs ls cp pp) (hC : (C, listOf vs.toArray kc) ∈ news) (hA : All2 (InsIn news) vs code) (hfit : code.length < 2 ^ 62) (hi : code[pc]? = some i) (hwf : ∀ t, i.arg = some t → t < code.length)
    (hret : ∀ fl h' tk' n', Fr h₀ L h' m → News h₀ L h' n' → Grow news n' → (fl, listOf #[] 0) ∈ n' → Q (.ref fl) { s with heap := h', toks := tk' }) :
    wpAny (model Challenge.rw_sm0039_01.row.prog w) (ktrTop dp un gd cn cs L a ccd cl outer) (call (.ref 241) [.ref u, .int (pc : Int) t, sv]) Q E s := by
  obtain ⟨hu1, hu2, hu3, hu4, hu5, hu6, hu7⟩ := hU
  obtain ⟨hr1, hr2⟩ := op_range i
  walk_at "m_start"
  refine wpAny_call ?_
  k_dflt (walk_at "m_enter")
  k_steps
  all_goals (first | exact hret _ _ _ _ (by k_asm) (by k_asm) (by walk_at "m_grow") (by walk_at "m_mem") | trace_state)
set_option maxRecDepth 100000 in
set_option maxHeartbeats 8000000 in
theorem c_need_values {w : World} {mean : ExcName → Option Value} {mg mb : Str → Option Value} {dp un : Nat} {gd : Option (List Code)} {cn : Str} {cs : Scope} {a : Addr} {ccd : Value} {cl : List (Str × Addr)} {outer : List Env} {A₀ : Around} {base h₀ : Heap} {L : Addr} {m : Str → Option Value} {news : List (Addr × Obj)} {s : Shared} {Q E : Value → Shared → Prop} {x : Addr} {vs : List Value} {kc n pc : Nat} {t : Tok} {b : Bool}
    (hB : Below A₀ base outer h₀) (hF : Fr h₀ L s.heap m) (hK : (hd.heap_1 w.params).In h₀) (hN : News h₀ L s.heap news) (hT : Top seenText (looseW seenText [Str.ofString "OPERATIONS", Str.ofString "LAST_OPS", Str.ofString "QUIET_OPS"]) mean mg mb h₀) (hkd : cs.kind = .function) (hdp : dp + 4 < recursionLimit) (hun : un + 40 < cLine) (hx : (x, tupO vs kc) ∈ news) (ho : Ones vs n)
    (hret : ∀ h' tk', Fr h₀ L h' m → News h₀ L h' news → Q (.none) { s with heap := h', toks := tk' }) :
    wpAny (model Challenge.rw_sm0039_01.row.prog w) (ktrTop dp un gd cn cs L a ccd cl outer) (call (.ref 248) [.ref x, .int (pc : Int) t, .bool b]) Q E s := by
  walk_at "m_start"
  refine wpAny_call ?_
  k_dflt (walk_at "m_enter")
  k_steps
  with_reducible rename Fr _ _ _ _ => lF
  with_reducible rename News _ _ _ _ => lN
  refine iter_tupR (fun _ m₁ n₁ => n₁ = news) (by rfl) (by assumption) (by assumption) hx rfl ?_ ?_
  · rintro I i v m₁ n₁ h tk o hv rfl hk hI F N
    obtain ⟨t9, rfl⟩ := ho.get hv
    k_steps
    exact ⟨_, _, _, _, rfl, by assumption, by assumption, hI, hk, rfl⟩
  · rintro h tk m₁ n₁ rfl hk F N
    k_steps
    all_goals (first | exact hret _ _ (by k_asm) (by k_asm) | trace_state)
set_option maxRecDepth 100000 in
set_option maxHeartbeats 8000000 in
theorem c_made_by {w : World} {mean : ExcName → Option Value} {mg mb : Str → Option Value} {dp un : Nat} {gd : Option (List Code)} {cn : Str} {cs : Scope} {a : Addr} {ccd : Value} {cl : List (Str × Addr)} {outer : List Env} {A₀ : Around} {base h₀ : Heap} {L : Addr} {m : Str → Option Value} {news : List (Addr × Obj)} {s : Shared} {Q E : Value → Shared → Prop} {o z : Int} {t t2 : Tok}
    (hB : Below A₀ base outer h₀) (hF : Fr h₀ L s.heap m) (hK : (hd.heap_1 w.params).In h₀) (hN : News h₀ L s.heap news) (hT : Top seenText (looseW seenText [Str.ofString "OPERATIONS", Str.ofString "LAST_OPS", Str.ofString "QUIET_OPS"]) mean mg mb h₀) (hkd : cs.kind = .function) (hdp : dp + 4 < recursionLimit) (hun : un + 40 < cLine) (ho : o ≠ 70) (ho2 : o ≠ 76) (hz : z = 0 ∨ z = 1 ∨ z = 2)
    (hret : ∀ v h' tk' n', Fr h₀ L h' m → News h₀ L h' n' → Grow news n' → StkIn n' v z.toNat → Q v { s with heap := h', toks := tk' }) :
    wpAny (model Challenge.rw_sm0039_01.row.prog w) (ktrTop dp un gd cn cs L a ccd cl outer) (call (.ref 255) [.int o t, .int z t2]) Q E s := by
  walk_at "m_start"
  refine wpAny_call ?_
  k_dflt (walk_at "m_enter")
  k_steps
  all_goals (first | (exfalso; omega) | skip)
  with_reducible rename Fr _ _ _ _ => lF
  with_reducible rename News _ _ _ _ => lN
  refine tup_rep lF lN (by walk_at "m_mem") hz ?_
  intro h9 n9 v9 F9 N9 G9 S9
  (try dsimp only)
  k_steps
  exact hret _ _ _ _ (by k_asm) (by k_asm) (by walk_at "m_grow") S9
end
section
set_option maxRecDepth 100000
section
variable {prog : Program} {w : World} {A : Around} {E : Value → Shared → Prop} {s : Shared} {value slice : PySem.Expr} {Q : Value → Shared → Prop} {h₀ : Heap} {L C : Addr} {news : List (Addr × Obj)} {vs : List Value} {k pc : Nat} {u : Tok} {z : Int} {a : Nat}
theorem code_item1 {i : Ins} {code : List Ins}
    (N : News h₀ L s.heap news) (hm : (C, listOf vs.toArray k) ∈ news) (hA : All2 (InsIn news) vs code) (hi : code[pc]? = some i) (hfit : code.length < 2 ^ 62) (hw : ∀ t, i.arg = some t → t < code.length) (hn : i.arg = none) (hz : i.op = z)
    (h1 : ∀ x t n, (x, tupO [.int z t, .none] n) ∈ news → Q (.ref x) s)
    (hs : subscripted slice false (.ref C) (.int (pc : Int) u) = operate [.ref C, .int (pc : Int) u] (getItem (.ref C) (.int (pc : Int) u)) := by with_unfolding_all rfl) :
    wpAny (model prog w) A (subscriptTail value slice (.ref C) (.int (pc : Int) u)) Q E s := by
  subst hz
  exact code_item N hm hA hi hfit hw (fun x t n h _ _ => h1 x t n h) (fun x t n a b h e => by rw [hn] at e; cases e) hs
theorem code_item2 {i : Ins} {code : List Ins}
    (N : News h₀ L s.heap news) (hm : (C, listOf vs.toArray k) ∈ news) (hA : All2 (InsIn news) vs code) (hi : code[pc]? = some i) (hfit : code.length < 2 ^ 62) (hw : ∀ t, i.arg = some t → t < code.length) (hn : i.arg = some a) (hz : i.op = z)
    (h1 : ∀ x t n b, (x, tupO [.int z t, .int (a : Int) b] n) ∈ news → a < code.length → Q (.ref x) s)
    (hs : subscripted slice false (.ref C) (.int (pc : Int) u) = operate [.ref C, .int (pc : Int) u] (getItem (.ref C) (.int (pc : Int) u)) := by with_unfolding_all rfl) :
    wpAny (model prog w) A (subscriptTail value slice (.ref C) (.int (pc : Int) u)) Q E s := by
  subst hz
  refine code_item N hm hA hi hfit hw (fun x t n h e _ => by rw [hn] at e; cases e) (fun x t n a' b h e _ l _ => ?_) hs
  rw [hn] at e
  cases e
  exact h1 x t n b h l
end
end
section
set_option maxRecDepth 100000
section
variable {prog : Program} {w : World} {A : Around} {E : Value → Shared → Prop} {s : Shared} {h₀ : Heap} {L d : Addr} {m : Str → Option Value} {news : List (Addr × Obj)} {o : Obj} {g : Obj → List (Addr × Obj)}
theorem need_made {Q : Value → Shared → Prop} {a b c e t0 t1 t2 t3 : Tok} (F : Fr h₀ L s.heap m) (N : News h₀ L s.heap news) (U : UpdF d o news g) (hd : o.IsDictOf (PySem.intKind prog w) [])
    (h : ∀ h' o' tk t0 t1 t2 t3, Fr h₀ L h' m → News h₀ L h' (g o') → o'.IsDictOf (PySem.intKind prog w) [(30, .int 2 t0), (9, .int 2 t1), (5, .int 0 t2), (58, .int 0 t3)] → Q (.ref d) { s with heap := h', toks := tk }) :
    KdnMade prog w (PySem.intKind prog w) d Q [(.int 30 a, .int 2 t0), (.int 9 b, .int 2 t1), (.int 5 c, .int 0 t2), (.int 58 e, .int 0 t3)] s :=
  kdn_made_int F N U hd rfl (of_decide_eq_true rfl) fun h' o' F' N' x => h h' o' _ _ _ _ _ F' N' x
theorem need_val {i : Ins} {t0 t1 t2 t3 t4 : Tok} : ∃ t, ((valueAt [((30 : Int), Value.int 2 t0), (9, .int 2 t1), (5, .int 0 t2), (58, .int 0 t3)] i.op).getD (.int 1 t4)) = .int (i.taken : Int) t := by
  cases i <;> exact ⟨_, rfl⟩
theorem need_get {i : Ins} {t t0 t1 t2 t3 t4 : Tok} {Q : Value → Shared → Prop} (N : News h₀ L s.heap news) (hp : (d, o) ∈ news) (hd : o.IsDictOf (PySem.intKind prog w) [(30, .int 2 t0), (9, .int 2 t1), (5, .int 0 t2), (58, .int 0 t3)]) (lo : (d == sysModules) = false)
    (h : ∀ t tk, Q (.int (i.taken : Int) t) { s with toks := tk }) : wpAny (model prog w) A (call (.builtin "dict.get") [.ref d, .int i.op t, .int 1 t4]) Q E s := by
  obtain ⟨u, e⟩ := need_val (i := i) (t0 := t0) (t1 := t1) (t2 := t2) (t3 := t3) (t4 := t4)
  refine kdg_get2 (knd := PySem.intKind prog w) N hp hd lo (intKind_is _ _ _ _) _ rfl ?_
  rw [e]
  exact h _ _
theorem grown_val {i : Ins} {t0 t1 t2 t3 t4 t5 t6 t7 : Tok} (hn : i.arg = none) (hl : i.last = false) : ∃ t, valueAt [((5 : Int), Value.int 1 t0), (7, .int 1 t1), (53, .int 0 t2), (9, .int 0 t3), (30, .int (-1) t4), (6, .int (-1) t5), (58, .int 0 t6), (59, .int (-1) t7)] i.op = some (.int ((i.put : Int) - (i.taken : Int)) t) := by
  cases i <;> first | exact ⟨_, rfl⟩ | exact absurd hl (by decide) | exact absurd hn (by simp [Ins.arg])
theorem grown_item {i : Ins} {t t0 t1 t2 t3 t4 t5 t6 t7 : Tok} {Q : Value → Shared → Prop} (N : News h₀ L s.heap news) (hp : (d, o) ∈ news) (hd : o.IsDictOf (PySem.intKind prog w) [(5, .int 1 t0), (7, .int 1 t1), (53, .int 0 t2), (9, .int 0 t3), (30, .int (-1) t4), (6, .int (-1) t5), (58, .int 0 t6), (59, .int (-1) t7)])
    (hn : i.arg = none) (hl : i.last = false)
    (h : ∀ t tk, Q (.int ((i.put : Int) - (i.taken : Int)) t) { s with toks := tk }) :
    wpAny (model prog w) A (getItem (.ref d) (.int i.op t)) Q E s := by
  obtain ⟨u, e⟩ := grown_val (t0 := t0) (t1 := t1) (t2 := t2) (t3 := t3) (t4 := t4) (t5 := t5) (t6 := t6) (t7 := t7) hn hl
  exact kdt_getItem (knd := PySem.intKind prog w) N hp hd (intKind_is _ _ _ _) e (h _ _)
theorem any2_no {i : Ins} {a b : Int} (h1 : i.op ≠ a) (h2 : i.op ≠ b) : ([a, b].any fun x => x == i.op) = false := by
  simp [Ne.symm h1, Ne.symm h2]
end
theorem code_itemA {prog : Program} {w : World} {A : Around} {E : Value → Shared → Prop} {s : Shared} {value slice : PySem.Expr} {Q : Value → Shared → Prop} {h₀ : Heap} {L C : Addr} {news : List (Addr × Obj)} {vs : List Value} {k pc : Nat} {u : Tok} {i : Ins} {code : List Ins}
    (N : News h₀ L s.heap news) (hm : (C, listOf vs.toArray k) ∈ news) (hA : All2 (InsIn news) vs code) (hi : code[pc]? = some i) (hfit : code.length < 2 ^ 62) (hw : ∀ t, i.arg = some t → t < code.length) (hn : i.arg = none) (_ : i.op ≠ 58)
    (h1 : ∀ x t n, (x, tupO [.int i.op t, .none] n) ∈ news → Q (.ref x) s)
    (hs : subscripted slice false (.ref C) (.int (pc : Int) u) = operate [.ref C, .int (pc : Int) u] (getItem (.ref C) (.int (pc : Int) u)) := by with_unfolding_all rfl) :
    wpAny (model prog w) A (subscriptTail value slice (.ref C) (.int (pc : Int) u)) Q E s :=
  code_item1 N hm hA hi hfit hw hn rfl h1 hs
theorem HPure.visit2 {code : List Ins} {fs W new : List (Nat × Nat)} {k : Nat} {n : List (Addr × Obj)} {us : List Value} {q : Nat × Nat} {i : Ins} (_ : All2 (WIn n) us (W ++ new)) (s : HPure code fs (W ++ [q]) k) (G : GoodCode code) (hq : q ∉ fs) (hi : code[q.1]? = some i) (ht : i.taken ≤ q.2) (hn : ∀ a b, (a, b) ∈ new ↔ (a, b) ∈ i.succs q.1 q.2) (hl : new.length ≤ 2) : 0 < k ∧ HPure code (fs ++ [q]) (W ++ new) (k - 1) :=
  s.visit G hq hi ht (fun r => hn r.1 r.2) hl
theorem Ins.six (i : Ins) : (i.arg = none ∧ i.last = false ∧ i.op ≠ 58 ∧ i.op ≠ 59 ∧ i.op ≠ 61 ∧ i.op ≠ 62 ∧ i.op ≠ 65) ∨ i = .ret ∨ (∃ t, i = .jmp t) ∨ (∃ t, i = .jf t) ∨ (∃ t, i = .jfk t) ∨ (∃ t, i = .jtk t) := by
  cases i <;> simp [Ins.arg, Ins.last, Ins.op]
end
section
set_option maxRecDepth 100000
section
variable {prog : Program} {w : World} {A : Around} {E : Value → Shared → Prop} {s : Shared} {value slice : PySem.Expr} {Q : Value → Shared → Prop} {h₀ : Heap} {L C d : Addr} {news : List (Addr × Obj)} {vs : List Value} {k pc : Nat} {u : Tok} {o : Obj}
theorem code_any {i : Ins} {code : List Ins}
    (N : News h₀ L s.heap news) (hm : (C, listOf vs.toArray k) ∈ news) (hA : All2 (InsIn news) vs code) (hi : code[pc]? = some i) (hfit : code.length < 2 ^ 62) (hw : ∀ t, i.arg = some t → t < code.length)
    (h : ∀ x t av n, (x, tupO [.int i.op t, av] n) ∈ news → ArgV i.arg av → Q (.ref x) s)
    (hs : subscripted slice false (.ref C) (.int (pc : Int) u) = operate [.ref C, .int (pc : Int) u] (getItem (.ref C) (.int (pc : Int) u)) := by with_unfolding_all rfl) :
    wpAny (model prog w) A (subscriptTail value slice (.ref C) (.int (pc : Int) u)) Q E s :=
  code_item N hm hA hi hfit hw (fun x t n h1 e _ => h x t _ n h1 (by rw [e]; exact .none)) (fun x t n a b h1 e _ _ _ => h x t _ n h1 (by rw [e]; exact .int _ _)) hs
theorem grown_val2 {i : Ins} {t0 t1 t2 t3 t4 t5 t6 t7 : Tok} (hk : i.keep = false) (hr : i ≠ .ret) : ∃ t, valueAt [((5 : Int), Value.int 1 t0), (7, .int 1 t1), (53, .int 0 t2), (9, .int 0 t3), (30, .int (-1) t4), (6, .int (-1) t5), (58, .int 0 t6), (59, .int (-1) t7)] i.op = some (.int ((i.put : Int) - (i.taken : Int)) t) := by
  cases i <;> first | exact ⟨_, rfl⟩ | exact absurd rfl hr | cases hk
theorem grown_item2 {i : Ins} {t t0 t1 t2 t3 t4 t5 t6 t7 : Tok} {Q : Value → Shared → Prop} (N : News h₀ L s.heap news) (hp : (d, o) ∈ news) (hd : o.IsDictOf (PySem.intKind prog w) [(5, .int 1 t0), (7, .int 1 t1), (53, .int 0 t2), (9, .int 0 t3), (30, .int (-1) t4), (6, .int (-1) t5), (58, .int 0 t6), (59, .int (-1) t7)])
    (hk : i.keep = false) (hr : i ≠ .ret)
    (h : ∀ t tk, Q (.int ((i.put : Int) - (i.taken : Int)) t) { s with toks := tk }) :
    wpAny (model prog w) A (getItem (.ref d) (.int i.op t)) Q E s := by
  obtain ⟨u, e⟩ := grown_val2 (t0 := t0) (t1 := t1) (t2 := t2) (t3 := t3) (t4 := t4) (t5 := t5) (t6 := t6) (t7 := t7) hk hr
  exact kdt_getItem (knd := PySem.intKind prog w) N hp hd (intKind_is _ _ _ _) e (h _ _)
end
theorem Ins.keep_arg {i : Ins} (h : i.keep = true) : ∃ t, i.arg = some t ∧ i.last = false ∧ i.taken = 1 ∧ i.put = 0 := by cases i <;> first | exact ⟨_, rfl, rfl, rfl, rfl⟩ | cases h
theorem Ins.jmp_any {i : Ins} (h : i.keep = false) : ([58, 59].any (· == i.op)) = i.arg.isSome := by cases i <;> first | rfl | cases h
theorem Ins.last_iff {i : Ins} (h : i ≠ .ret) : i.last = decide (i.op = 58) := by cases i <;> first | rfl | exact absurd rfl h
theorem Ins.ret_iff {i : Ins} : i.op = 65 ↔ i = .ret := by cases i <;> simp [Ins.op]
/-- the two ways on, the jump's first -/
def Ins.far (i : Ins) (h : Nat) : List (Nat × Nat) := match i.arg with | some t => [(t, h - i.taken + i.put)] | none => []
def Ins.near (i : Ins) (p h : Nat) : List (Nat × Nat) := if i.last then [] else [(p + 1, h - i.taken + i.put)]
theorem Ins.far_len (i : Ins) (h : Nat) : (i.far h).length ≤ 1 := by unfold Ins.far; cases i.arg <;> simp
theorem Ins.near_len (i : Ins) (p h : Nat) : (i.near p h).length ≤ 1 := by unfold Ins.near; cases i.last <;> simp
namespace HPure
variable {code : List Ins} {fs W : List (Nat × Nat)} {k p h t : Nat} {i : Ins}
theorem visitA (s : HPure code fs (W ++ [(p, h)]) k) (G : GoodCode code) (hq : (p, h) ∉ fs) (hi : code[p]? = some i) (ht : i.taken ≤ h) (hk : i.keep = true) (ha : i.arg = some t) : 0 < k ∧ HPure code (fs ++ [(p, h)]) (W ++ [(t, h), (p + 1, h - 1)]) (k - 1) :=
  s.visit G hq hi ht (fun r => by
    obtain ⟨_, _, h1, h2, h3⟩ := i.keep_arg hk
    simp only [Ins.succs, ha, h1, h2, h3, hk, Bool.false_eq_true, if_false, if_true, List.mem_append, List.mem_cons, List.not_mem_nil, or_false, Nat.add_zero]
    exact Or.comm) (Nat.le_refl 2)
theorem visitR (s : HPure code fs (W ++ [(p, h)]) k) (G : GoodCode code) (hq : (p, h) ∉ fs) (hi : code[p]? = some .ret) (ht : Ins.ret.taken ≤ h) : 0 < k ∧ HPure code (fs ++ [(p, h)]) W (k - 1) := by
  have := s.visit G hq hi ht (new := []) (fun r => Iff.rfl) (Nat.zero_le 2)
  rwa [List.append_nil] at this
theorem visitC (s : HPure code fs (W ++ [(p, h)]) k) (G : GoodCode code) (hq : (p, h) ∉ fs) (hi : code[p]? = some i) (ht : i.taken ≤ h) (hk : i.keep = false) : 0 < k ∧ HPure code (fs ++ [(p, h)]) ((W ++ i.far h) ++ i.near p h) (k - 1) := by
  rw [List.append_assoc]
  have e : i.succs p h = i.near p h ++ i.far h := by unfold Ins.succs Ins.near Ins.far; rw [hk]; rfl
  refine s.visit G hq hi ht (fun r => ?_) ?_
  · rw [e, List.mem_append, List.mem_append]; exact Or.comm
  · have := i.succs_len p h
    rw [e, List.length_append] at this
    rw [List.length_append, Nat.add_comm]; exact this
end HPure
theorem ins_ret {n : List (Addr × Obj)} {x : Addr} {av : Value} {i : Ins} {h t' : Nat} {tk : Tok} {kx : Nat} (hav : ArgV i.arg av) (ha : i.arg = some t') (hm : (x, tupO [av, .int (h : Int) tk] kx) ∈ n) : WIn n (.ref x) (t', h) := by
  rw [ha] at hav
  cases hav with
  | int => exact .mk (.mk hm)
theorem Ins.jump_arg {i : Ins} (h : i.jump = true) : ∃ t, i.arg = some t := by cases i <;> first | exact ⟨_, rfl⟩ | cases h
theorem Ins.jump_no {i : Ins} (h : i.jump = false) : i.arg = none := by cases i <;> first | rfl | cases h
theorem Ins.kind_no {i : Ins} (h : i.jump = false) : i.kind = Str.ofString "" := by unfold Ins.kind; rw [h]; rfl
theorem Ins.kind_t {i : Ins} (h : i.jump = true) : i.kind = Str.ofString "t" := by unfold Ins.kind; rw [h]; rfl
theorem Ins.succs_no {i : Ins} {p h : Nat} (ha : i.arg = none) : i.succs p h = if i.last then [] else [(p + 1, h - i.taken + i.put)] := by unfold Ins.succs; rw [ha]; exact List.append_nil _
theorem Ins.succs_to {i : Ins} {p h t : Nat} (ha : i.arg = some t) : i.succs p h = (if i.last then [] else [(p + 1, h - i.taken + i.put)]) ++ [(t, if i.keep then h else h - i.taken + i.put)] := by unfold Ins.succs; rw [ha]
theorem pair_arg {n : List (Addr × Obj)} {x : Addr} {av sv : Value} {i : Ins} {h t' : Nat} {kx : Nat} (hav : ArgV i.arg av) (ha : i.arg = some t') (hm : (x, tupO [av, sv] kx) ∈ n) (hs : StkIn n sv h) : PairIn n (.ref x) (t', h) := by
  rw [ha] at hav
  cases hav with
  | int => exact .mk hm hs
end
local macro_rules | `(tactic| walk_at "m_z3") => `(tactic| (intro e9 t9 d9 _ _ _ F9 N9 S9 M9; refine ⟨e9, t9, some d9, rfl, Frag.In.keeps (by k_asm) (Fr.keep F9), (N9 _ M9).1, ?_⟩; (try dsimp only); (with_reducible rename Below _ _ (_ :: _) _ => hB9); refine bad_first hB9 rfl rfl rfl F9 N9 M9 S9 ?_; intro _ _ _; (try dsimp only)))
local macro_rules | `(tactic| walk_at "m_z4") => `(tactic| (intro _ _ _ _ _ _ _ S9; (try dsimp only); (try k_fold); (cases S9)))
section
theorem words_V2 : True := by
  k_with_none
  k_with "m_mem" => first | assumption | exact List.Mem.head _ | (refine List.mem_cons_of_mem _ ?_; walk_at "m_mem") | (refine List.mem_append_left _ ?_; walk_at "m_mem") | (refine List.mem_append_right _ ?_; walk_at "m_mem") | (refine' Grow.mem ?q9mg _ ?q9mh; (case q9mg => with_reducible assumption); (case q9mh => walk_at "m_mem")) | fail "m_mem"
  k_with "m_below" => first | assumption | (refine tb_ltOf ?_; (try simp only [AllLt, and_true]); first | assumption | omega) | fail "m_below"
  k_with "m_grow" => first | exact Grow.refl _ | assumption | (refine' Grow.cons ?q9ml ?q9mg; (case q9ml => walk_at "m_below"); (case q9mg => walk_at "m_grow")) | (refine' Grow.trans ?q9mg ?q9mk; (case q9mk => assumption); (case q9mg => walk_at "m_grow")) | fail "m_grow"
  k_with "m_news" => first | k_asm | (refine' cb_drop ?q9mN ?q9mS; (case q9mN => assumption); (case q9mS => (intro _ _; walk_at "m_mem"))) | fail "m_news"
  k_with "m_enter" => (refine' code_def ?q9k1 ?q9k2 ?q9k3 ?q9k4 ?q9k5 ?q9kA ?q9kF ?q9kK ?q9k6 ?q9k7 ?q9k8 ?q9k9 ?q9kB ?_ ?q9c2 ?q9c3 ?q9c4 ?q9c5; (case q9kA => exact rfl); (case q9kF => exact rfl); (case q9kK => first | exact rfl | assumption); (case q9k1 => k_asm); (case q9k2 => k_asm); (case q9k3 => k_asm); (case q9k4 => k_asm); (case q9k5 => k_asm); (case q9k6 => k_is); (case q9k7 => k_is); (case q9k8 => ktr_room); (case q9k9 => exact BindsTo.of_eq rfl); (case q9c5 => decide); (case q9kB => exact locs rfl); (case q9c2 => exact rfl); (case q9c3 => exact rfl); (case q9c4 => exact rfl); k_whole; walk_at "m_z0")
  k_with "call ref" => (k_here; k_dflt (first
  | (refine' call_cls ?q9k1 ?q9k2 ?q9k3 ?q9k4 ?q9k5 ?q9k6 ?_; (case q9k1 => k_asm); (case q9k2 => k_asm); (case q9k3 => k_asm); (case q9k4 => k_is); (case q9k5 => k_is); (case q9k6 => k_is); k_whole; walk_at "m_z1")
  | (refine wpAny_call ?_; walk_at "m_enter")))
  k_with "m_start" => (with_reducible rename Frag.In _ _ => hK9; revert hK9; k_fill; intro hK9)
  k_with "subscriptTail" => (k_here; (with_reducible show wpAny _ _ (subscriptTail _ _ (Value.ref _) (Value.int (Nat.cast (R := Int) _) _)) _ _ _); refine Halt.out ?_)
  k_with "call builtin:len" => (k_here; (with_reducible show wpAny _ _ (call (Value.builtin "len") [Value.ref _]) _ _ _); k_dflt (refine' all2_len ?q9k1 ?q9k2 ?q9k3 ?q9k4 ?_; (case q9k1 => k_asm); (case q9k2 => assumption); (case q9k3 => assumption); (case q9k4 => assumption); k_whole))
  k_with "call builtin:len" => (k_here; (with_reducible show wpAny _ _ (call (Value.builtin "len") [Value.ref _]) _ _ _); k_dflt (refine' stk_len ?q9k1 ?q9k2 ?q9k3 ?q9k4 ?_; (case q9k1 => k_asm); (case q9k2 => walk_at "m_mem"); (case q9k3 => assumption); (case q9k4 => omega); k_whole))
  k_with "subscriptTail Name Slice ref ref" => (k_here; (with_reducible show wpAny _ _ (subscriptTail _ (PySem.Expr.Slice (some _) none none _) (Value.ref _) (Value.ref _)) _ _ _); k_dflt (refine' stk_from ?q9k1 ?q9k2 ?q9k3 ?q9k4 ?q9k5 ?q9k6 ?q9k7 ?_ ?q9k8; (case q9k1 => k_asm); (case q9k2 => k_asm); (case q9k3 => walk_at "m_mem"); (case q9k4 => assumption); (case q9k5 => omega); (case q9k6 => omega); (case q9k7 => omega); (case q9k8 => with_unfolding_all rfl)); intro _ _ _ _ _ _ _ _ _ _; (try dsimp only))
  k_with "subscriptTail Name Slice ref ref" => (k_here; (with_reducible show wpAny _ _ (subscriptTail _ (PySem.Expr.Slice none (some _) none _) (Value.ref _) (Value.ref _)) _ _ _); k_dflt (refine' stk_upto ?q9k1 ?q9k2 ?q9k3 ?q9k4 ?q9k5 ?q9k6 ?q9k7 ?_ ?q9k8; (case q9k1 => k_asm); (case q9k2 => k_asm); (case q9k3 => walk_at "m_mem"); (case q9k4 => assumption); (case q9k5 => omega); (case q9k6 => omega); (case q9k7 => omega); (case q9k8 => with_unfolding_all rfl)); intro _ _ _ _ _ _ _ _ _ _; (try dsimp only))
  k_with "binaryOp Add ref ref" => (k_here; k_dflt (refine' stk_add ?q9k1 ?q9k2 ?q9k3 ?q9k4 ?q9k5 ?q9k6 ?q9k7 ?_; (case q9k1 => k_asm); (case q9k2 => k_asm); (case q9k3 => walk_at "m_mem"); (case q9k4 => assumption); (case q9k5 => walk_at "m_mem"); (case q9k6 => assumption); (case q9k7 => omega)); intro _ _ _ _ _ _ _ _ _ _; (try dsimp only))
  k_with "exec Raise some none" => (k_here; k_dflt (refine raise_bad (by rfl) ?_); k_whole)
  k_with "compareOp Eq int int" => (k_here; (with_reducible show wpAny _ _ (compareOp CmpOp.Eq (Value.int (Ins.op _) _) (Value.int _ _)) _ _ _); k_dflt (refine op_eq_no (by omega) ?_); (try dsimp only))
  k_with "compareOp NotEq int int" => (k_here; (with_reducible show wpAny _ _ (compareOp CmpOp.NotEq (Value.int (Ins.op _) _) (Value.int _ _)) _ _ _); k_dflt (refine op_ne_yes (by omega) ?_); (try dsimp only))
  k_with "call ref" => (k_here; (with_reducible show wpAny _ _ (call (Value.ref 118) _) _ _ _); k_dflt (refine' c_badcode ?q9k1 ?q9k2 ?q9k3 ?q9k4 ?q9k5 ?q9kK ?q9kd ?q9ku ?_; (case q9k1 => k_asm); (case q9k2 => k_asm); (case q9k3 => k_asm); (case q9k4 => k_asm); (case q9k5 => k_asm); (case q9kK => first | exact rfl | assumption); (case q9kd => ktr_room); (case q9ku => ktr_units)); walk_at "m_z3")
  k_with "call ref" => (k_here; (with_reducible show wpAny _ _ (call (Value.ref 149) _) _ _ _); k_dflt (refine' c_arg_kind ?q9k1 ?q9k2 ?q9k3 ?q9k4 ?q9k5 ?q9kK ?q9kd ?q9ku ?q9kx ?_; (case q9k1 => k_asm); (case q9k2 => k_asm); (case q9k3 => k_asm); (case q9k4 => k_asm); (case q9k5 => k_asm); (case q9kK => first | exact rfl | assumption); (case q9kd => ktr_room); (case q9ku => ktr_units); (case q9kx => first | assumption | exact rfl);  k_whole); intro _ _ _ _ _; (try dsimp only); (try k_fold))
  k_with "call ref" => (k_here; (with_reducible show wpAny _ _ (call (Value.ref 156) _) _ _ _); k_dflt (refine' c_taken_count ?q9k1 ?q9k2 ?q9k3 ?q9k4 ?q9k5 ?q9kK ?q9kd ?q9ku  ?_; (case q9k1 => k_asm); (case q9k2 => k_asm); (case q9k3 => k_asm); (case q9k4 => k_asm); (case q9k5 => k_asm); (case q9kK => first | exact rfl | assumption); (case q9kd => ktr_room); (case q9ku => ktr_units);  k_whole); intro _ _ _ _ _; (try dsimp only); (try k_fold))
  k_with "call ref" => (k_here; (with_reducible show wpAny _ _ (call (Value.ref 163) _) _ _ _); k_dflt (refine' c_put_count ?q9k1 ?q9k2 ?q9k3 ?q9k4 ?q9k5 ?q9kK ?q9kd ?q9ku  ?_; (case q9k1 => k_asm); (case q9k2 => k_asm); (case q9k3 => k_asm); (case q9k4 => k_asm); (case q9k5 => k_asm); (case q9kK => first | exact rfl | assumption); (case q9kd => ktr_room); (case q9ku => ktr_units);  k_whole); intro _ _ _ _ _; (try dsimp only); (try k_fold))
  k_with "call ref" => (k_here; (with_reducible show wpAny _ _ (call (Value.ref 170) _) _ _ _); k_dflt (refine' c_is_last ?q9k1 ?q9k2 ?q9k3 ?q9k4 ?q9k5 ?q9kK ?q9kd ?q9ku  ?_; (case q9k1 => k_asm); (case q9k2 => k_asm); (case q9k3 => k_asm); (case q9k4 => k_asm); (case q9k5 => k_asm); (case q9kK => first | exact rfl | assumption); (case q9kd => ktr_room); (case q9ku => ktr_units);  k_whole); intro _ _ _ _; (try dsimp only); (try k_fold))
  k_with "call ref" => (k_here; (with_reducible show wpAny _ _ (call (Value.ref 248) _) _ _ _); k_dflt (refine' c_need_values ?q9k1 ?q9k2 ?q9k3 ?q9k4 ?q9k5 ?q9kK ?q9kd ?q9ku ?q9kx ?q9ky ?_; (case q9k1 => k_asm); (case q9k2 => k_asm); (case q9k3 => k_asm); (case q9k4 => k_asm); (case q9k5 => k_asm); (case q9kK => first | exact rfl | assumption); (case q9kd => ktr_room); (case q9ku => ktr_units); (case q9kx => walk_at "m_mem"); (case q9ky => assumption);  k_whole); intro _ _ _ _; (try dsimp only); (try k_fold))
  k_with "call ref" => (k_here; (with_reducible show wpAny _ _ (call (Value.ref 255) _) _ _ _); k_dflt (refine' c_made_by ?q9k1 ?q9k2 ?q9k3 ?q9k4 ?q9k5 ?q9kK ?q9kd ?q9ku ?q9kx ?q9ky ?q9kz ?_; (case q9k1 => k_asm); (case q9k2 => k_asm); (case q9k3 => k_asm); (case q9k4 => k_asm); (case q9k5 => k_asm); (case q9kK => first | exact rfl | assumption); (case q9kd => ktr_room); (case q9ku => ktr_units); (case q9kx => assumption); (case q9ky => assumption); (case q9kz => assumption);  k_whole); walk_at "m_z4")
  k_with "compareOp Eq int int" => (k_here; (with_reducible show wpAny _ _ (compareOp CmpOp.Eq (Value.int (Ins.op _) _) (Value.int 77 _)) _ _ _); refine Halt.out ?_)
  k_with "exec If" => (k_here; (with_reducible rename AnyMark => hgo9); clear hgo9; refine Halt.out ?_)
  k_with "eval IfExp" => (k_here; (with_reducible rename IfMark => hgo9); clear hgo9; refine Halt.out ?_)
  k_with "call builtin:list.append" => (k_here; refine Halt.out ?_)
  trivial
set_option maxRecDepth 100000 in
set_option maxHeartbeats 8000000 in
theorem c_ways_on {w : World} {mean : ExcName → Option Value} {mg mb : Str → Option Value} {dp un : Nat} {gd : Option (List Code)} {cn : Str} {cs : Scope} {a : Addr} {ccd : Value} {cl : List (Str × Addr)} {outer : List Env} {A₀ : Around} {base h₀ : Heap} {L : Addr} {m : Str → Option Value} {news : List (Addr × Obj)} {s : Shared} {Q E : Value → Shared → Prop} {u d C : Addr} {k : Nat → Tok} {P cs' us hs ls cp pp : Addr} {vs : List Value} {kc : Nat} {code : List Ins} {pc n x ks : Nat} {t : Tok} {i : Ins} {ws : List Value}
    (hB : Below A₀ base outer h₀) (hF : Fr h₀ L s.heap m) (hK : (hd.heap_1 w.params).In h₀) (hN : News h₀ L s.heap news) (hT : Top seenText (looseW seenText [Str.ofString "OPERATIONS", Str.ofString "LAST_OPS", Str.ofString "QUIET_OPS"]) mean mg mb h₀) (hkd : cs.kind = .function) (hdp : dp + 12 < recursionLimit) (hun : un + 160 < cLine) (hU : UnitIn w news u d k P C cs' us hs ls cp pp) (hC : (C, listOf vs.toArray kc) ∈ news) (hA : All2 (InsIn news) vs code) (hfit : code.length < 2 ^ 62) (hi : code[pc]? = some i) (hwf : ∀ t, i.arg = some t → t < code.length) (hst : (x, tupO ws ks) ∈ news) (ho : Ones ws n) (hn : n ≤ 1000000)
    (hret : ∀ fl vs' kv h' tk' n', Fr h₀ L h' m → News h₀ L h' n' → Grow news n' → (fl, listOf vs'.toArray kv) ∈ n' → All2 (PairIn n') vs' (i.succs pc n) → i.taken ≤ n → Q (.ref fl) { s with heap := h', toks := tk' })
    (hexc : ∀ e h' tk' g₂, n < i.taken → BadFly base (envX cn cs L a ccd cl :: outer) e news h' → Fr h₀ L g₂ m → g₂.UpToSlots h' → E (.ref e) { s with heap := h', toks := tk' }) :
    wpAny (model Challenge.rw_sm0039_01.row.prog w) (ktrTop dp un gd cn cs L a ccd cl outer) (call (.ref 262) [.ref u, .int (pc : Int) t, .ref x]) Q E s := by
  obtain ⟨hu1, hu2, hu3, hu4, hu5, hu6, hu7⟩ := hU
  obtain ⟨hr1, hr2⟩ := op_range i
  obtain ⟨q1, q2, q3, q4, q5, q6⟩ := i.op_facts
  have hput := i.put_cases
  have htl := i.taken_le
  have hpl := i.put_le
  have hKd := kdMark
  revert hK; k_fill; intro hK
  refine wpAny_call ?_
  k_dflt (refine' code_def (binds := [(Str.ofString "unit", .ref u), (Str.ofString "pc", .int (pc : Int) t), (Str.ofString "stack", .ref x)]) ?k1 ?k2 ?k3 ?k4 ?k5 ?kA ?kF ?kK ?k6 ?k7 ?k8 ?k9 ?kB ?_ ?c2 ?c3 ?c4 ?c5; (case kA => exact rfl); (case kF => exact rfl); (case kK => first | exact rfl | assumption); (case k1 => k_asm); (case k2 => k_asm); (case k3 => k_asm); (case k4 => k_asm); (case k5 => k_asm); (case k6 => k_is); (case k7 => k_is); (case k8 => ktr_room); (case k9 => exact BindsTo.of_eq rfl); (case c5 => decide); (case kB => exact locs rfl); (case c2 => exact rfl); (case c3 => exact rfl); (case c4 => exact rfl); k_whole; intro g' L' h' FG' F' N' B' X' T'; (try dsimp only); (try k_lift B'); (try k_fold))
  k_steps
  refine ⟨?_⟩
  refine code_any (by k_asm) (by walk_at "m_mem") hA hi hfit hwf ?_
  intro x1 t1 av k1 hx1 hav
  k_steps
  · exact hexc _ _ _ _ (Int.ofNat_lt.mp (by assumption)) (by assumption) (by assumption) (by assumption)
  refine ⟨?_⟩
  have ht : i.taken ≤ n := Int.ofNat_le.mp (Int.not_lt.mp (by assumption))
  rename_i n1' ya za ka Ga Ma Oa hh4 n2' yb zb kb Gb Mb Ob Da hh3 la hh2 hh1 hh0 F2 N2'
  have eb : ((n : Int) - (i.taken : Int)).toNat = n - i.taken := by omega
  rw [eb] at Oa Ob
  obtain ⟨n2, N2, G2, mth, mbe⟩ : ∃ n, News g' L' hh0 n ∧ Grow news n ∧ (ya, tupO za ka) ∈ n ∧ (yb, tupO zb kb) ∈ n := ⟨_, N2', (Ga.trans Gb).tail, .tail _ (Gb.mem _ Ma), .tail _ Mb⟩
  clear Ga Gb Ma Mb la N2' eb
  have hst2 := G2.mem _ hst
  refine op_eq_no q3 ?_
  have hany : AnyMark := ⟨⟩
  k_steps
  refine ⟨?_⟩
  with_reducible rename Fr g' L' _ _ => F2'
  obtain ⟨mm, hmm, F3⟩ : ∃ mm, mm = _ ∧ Fr g' L' _ mm := ⟨_, rfl, F2'⟩
  clear F2'
  refine mid (fun (v : Flow) h' => v = .next ∧ Fr g' L' h' mm ∧ News g' L' h' n2) ?_ ?_
  · subst hmm
    k_steps
    all_goals exact ⟨⟨_, _, rfl, rfl, by k_asm, by k_asm⟩⟩
  rintro v h3 tk3 ⟨rfl, F4, N4⟩
  subst hmm
  clear F3 N2
  have hif : IfMark := ⟨⟩
  k_steps
  refine ⟨?_⟩
  with_reducible rename Grow n2 _ => G3a
  rename_i h5 n3 xb zc kc Gb3 Mb3 Ob3 h6 F6' N6
  have G3 := G3a.trans Gb3
  have G3' := G2.trans G3
  have hst3 := G3.mem _ hst2
  rw [Int.toNat_natCast] at Ob3
  obtain ⟨mm, hmm, F6⟩ : ∃ mm, mm = _ ∧ Fr g' L' _ mm := ⟨_, rfl, F6'⟩
  clear F6' G3a Gb3 G3 hst2 mth mbe Oa Ob G2
  refine mid (fun v h' => ∃ D ys cc n', v = .ref D ∧ Fr g' L' h' mm ∧ News g' L' h' n' ∧ Grow n3 n' ∧ (D, listOf (List.toArray ys) cc) ∈ n' ∧ All2 (PairIn n') ys (if i.last then [] else [(pc + 1, n - i.taken + i.put)]) ∧ (∀ q ∈ n3, q.1 ≠ D) ∧ ys.length ≤ 1) ?_ ?_
  · subst hmm
    k_steps
    · with_reducible rename (∀ p ∈ n3, p.1 < _) => l5
      exact ⟨⟨_, _, rfl, _, [], 0, _, rfl, by k_asm, by k_asm, ⟨fun q hq => .tail _ hq⟩, .head _, by rw [if_pos (by assumption)]; exact .nil, fun q hq => Nat.ne_of_lt (l5 _ hq), Nat.zero_le 1⟩⟩
    · with_reducible rename (_ < _ ∧ AllLt _ n3) => l5
      exact ⟨⟨_, _, rfl, _, [_], 0, _, rfl, by k_asm, by k_asm, ⟨fun q hq => .tail _ (.tail _ hq)⟩, .head _, by rw [if_neg (by rw [Bool.not_eq_true]; assumption)]; exact .cons (.mk (.tail _ (.head _)) (.mk (.tail _ (.tail _ Mb3)) Ob3)) .nil, fun q hq => Nat.ne_of_lt (tb_ltOf l5.2 _ hq), Nat.le_refl 1⟩⟩
  rintro v h7 tk7 ⟨D, ys, cc, n4, rfl, F7, N7, G7, hD, A7, fr7, ly7⟩
  subst hmm
  clear F6 N6
  cases hj : i.jump with
  | false =>
    have hkd' := Ins.kind_no hj
    k_steps
    exact hret _ _ _ _ _ _ (by k_asm) (by k_asm) (G3'.trans G7) hD (by rw [Ins.succs_no (Ins.jump_no hj)]; exact A7) ht
  | true =>
    have hkd' := Ins.kind_t hj
    obtain ⟨tg, hta⟩ := Ins.jump_arg hj
    have hif : IfMark := ⟨⟩
    k_steps
    refine ⟨?_⟩
    with_reducible rename News g' L' _ _ => N8
    with_reducible rename Fr g' L' _ _ => F8'
    obtain ⟨mm, hmm, F8⟩ : ∃ mm, mm = _ ∧ Fr g' L' _ mm := ⟨_, rfl, F8'⟩
    clear F8'
    refine mid (fun v h' => ∃ y ws k n', v = .ref y ∧ Fr g' L' h' mm ∧ News g' L' h' n' ∧ Grow n4 n' ∧ (y, tupO ws k) ∈ n' ∧ Ones ws (if i.keep then n else n - i.taken + i.put)) ?_ ?_
    · subst hmm
      k_steps
      · with_reducible rename (List.any _ _ = true) => hk
        rw [Ins.keep_iff] at hk
        exact ⟨⟨_, _, rfl, x, ws, ks, _, rfl, by k_asm, by k_asm, ⟨fun q hq => .tail _ hq⟩, .tail _ (G7.mem _ hst3), by rw [if_pos hk]; exact ho⟩⟩
      · with_reducible rename (List.any _ _ = false) => hk
        rw [Ins.keep_iff] at hk
        exact ⟨⟨_, _, rfl, xb, zc, kc, _, rfl, by k_asm, by k_asm, ⟨fun q hq => .tail _ hq⟩, .tail _ (G7.mem _ Mb3), by rw [if_neg (ne_true_of_eq_false hk)]; exact Ob3⟩⟩
    rintro v h9 tk9 ⟨y9, ws9, k9, n5, rfl, F9, N9, G9, hy9, O9⟩
    subst hmm
    clear N8
    k_steps
    refine ⟨?_⟩
    with_reducible rename News g' L' _ _ => N9'
    refine app_list (by k_asm) N9' (.tail _ (G9.mem _ hD)) (Nat.le_trans ly7 (by decide)) ?_
    intro h10 F10 N10
    have T9 := TupSub.flt N9' (.tail _ (G9.mem _ hD)) list_noTup
    k_steps
    refine hret _ _ _ _ _ _ (by k_asm) (by k_asm) (((G3'.trans G7).trans G9).tail.flt fun q hq => fr7 q (G3'.mem q hq)).tail (.head _) ?_ ht
    rw [Ins.succs_to hta]
    exact ((T9.trans TupSub.tail).pairs (((TupSub.grow G9).trans TupSub.tail).pairs A7)).append (.cons ((T9.trans TupSub.tail).pair (pair_arg hav hta (.head _) (.mk (.tail _ hy9) O9))) .nil)
end
local macro_rules | `(tactic| walk_at "m_z5") => `(tactic| (intro _ _ _ _ _ l1 _ _; (try k_lt l1)))
section
theorem words_W1_9 : True := by
  k_with_none
  k_with "m_mem" => first | assumption | exact List.Mem.head _ | (refine List.mem_cons_of_mem _ ?_; walk_at "m_mem") | (refine List.mem_append_left _ ?_; walk_at "m_mem") | (refine List.mem_append_right _ ?_; walk_at "m_mem") | exact Put.mem (by assumption) | (refine' Grow.mem ?q9mg _ ?q9mh; (case q9mg => with_reducible assumption); (case q9mh => walk_at "m_mem")) | (refine' Put.keep ?q9mp ?q9mh ?q9mn; (case q9mp => with_reducible assumption); (case q9mh => walk_at "m_mem"); (case q9mn => walk_at "m_ne")) | (refine' Grow.mem ?q9mg _ ?q9mh; (case q9mh => with_reducible assumption); (case q9mg => walk_at "m_grow")) | fail "m_mem"
  k_with "m_ne" => first | assumption | exact Ne.symm (by assumption) | (refine Nat.ne_of_lt ?_; walk_at "m_lt") | (refine Nat.ne_of_gt ?_; walk_at "m_lt") | fail "m_ne"
  k_with "m_lt" => first | assumption | omega | (refine' lt_mem ?q9ma ?q9mb; (case q9mb => assumption); (case q9ma => first | assumption | exact tb_ltOf (by assumption))) | (solve_by_elim (config := { maxDepth := 3 })) | fail "m_lt"
  k_with "m_below" => first | assumption | (refine tb_ltOf ?_; (try simp only [AllLt, and_true]); first | assumption | omega) | fail "m_below"
  k_with "m_grow" => first | exact Grow.refl _ | assumption | (refine' Grow.cons ?q9ml ?q9mg; (case q9ml => walk_at "m_below"); (case q9mg => walk_at "m_grow")) | (refine' Grow.trans ?q9mg ?q9mk; (case q9mk => assumption); (case q9mg => walk_at "m_grow")) | (refine' Put.grow ?q9mp ?q9mg ?q9ml; (case q9mp => with_reducible assumption); (case q9ml => walk_at "m_below"); (case q9mg => walk_at "m_grow")) | fail "m_grow"
  k_with "m_news" => first | k_asm | (refine' cb_drop ?q9mN ?q9mS; (case q9mN => assumption); (case q9mS => (intro _ _; walk_at "m_mem"))) | fail "m_news"
  k_with "m_enter" => (refine' code_def ?q9k1 ?q9k2 ?q9k3 ?q9k4 ?q9k5 ?q9kA ?q9kF ?q9kK ?q9k6 ?q9k7 ?q9k8 ?q9k9 ?q9kB ?_ ?q9c2 ?q9c3 ?q9c4 ?q9c5; (case q9kA => exact rfl); (case q9kF => exact rfl); (case q9kK => first | exact rfl | assumption); (case q9k1 => k_asm); (case q9k2 => k_asm); (case q9k3 => k_asm); (case q9k4 => k_asm); (case q9k5 => k_asm); (case q9k6 => k_is); (case q9k7 => k_is); (case q9k8 => ktr_room); (case q9k9 => exact BindsTo.of_eq rfl); (case q9c5 => decide); (case q9kB => exact locs rfl); (case q9c2 => exact rfl); (case q9c3 => exact rfl); (case q9c4 => exact rfl); k_whole; walk_at "m_z0")
  k_with "call ref" => (k_here; k_dflt (first
  | (refine' call_cls ?q9k1 ?q9k2 ?q9k3 ?q9k4 ?q9k5 ?q9k6 ?_; (case q9k1 => k_asm); (case q9k2 => k_asm); (case q9k3 => k_asm); (case q9k4 => k_is); (case q9k5 => k_is); (case q9k6 => k_is); k_whole; walk_at "m_z1")
  | (refine wpAny_call ?_; walk_at "m_enter")))
  k_with "m_start" => (with_reducible rename Frag.In _ _ => hK9; revert hK9; k_fill; intro hK9)
  k_with "subscriptTail" => (k_here; (with_reducible show wpAny _ _ (subscriptTail _ _ (Value.ref _) (Value.int (Nat.cast (R := Int) _) _)) _ _ _); k_dflt (refine' code_item ?q9k1 ?q9k2 ?q9k3 ?q9k4 ?q9k5 ?q9k7 ?_ ?_ ?q9k6; (case q9k1 => k_asm); (case q9k3 => k_asm); (case q9k2 => walk_at "m_mem"); (case q9k4 => k_asm); (case q9k5 => k_asm); (case q9k7 => k_asm); (case q9k6 => with_unfolding_all rfl)) <;> (intros; (try k_fold)))
  k_with "call builtin:len" => (k_here; (with_reducible show wpAny _ _ (call (Value.builtin "len") [Value.ref _]) _ _ _); k_dflt (refine' all2_len ?q9k1 ?q9k2 ?q9k3 ?q9k4 ?_; (case q9k1 => k_asm); (case q9k2 => assumption); (case q9k3 => assumption); (case q9k4 => assumption); k_whole))
  k_with "compareOp Eq int int" => (k_here; (with_reducible show wpAny _ _ (compareOp CmpOp.Eq (Value.int (Ins.op _) _) (Value.int _ _)) _ _ _); k_dflt (refine op_eq_no (by omega) ?_); (try dsimp only))
  k_with "compareOp NotEq int int" => (k_here; (with_reducible show wpAny _ _ (compareOp CmpOp.NotEq (Value.int (Ins.op _) _) (Value.int _ _)) _ _ _); k_dflt (refine op_ne_yes (by omega) ?_); (try dsimp only))
  k_with "exec Raise some none" => (k_here; k_dflt (refine raise_bad (by rfl) ?_); k_whole)
  k_with "exec For" => (k_here; walk_at "m_z2")
  k_with "exec For Name Attribute cons nil" => (k_here; walk_at "m_z2")
  k_with "exec For Name Name cons nil" => (k_here; walk_at "m_z2")
  k_with "exec For Tuple Call" => (k_here; walk_at "m_z2")
  k_with "exec For Tuple Name cons nil" => (k_here; walk_at "m_z2")
  k_with "exec For Name Call cons nil" => (k_here; walk_at "m_z2")
  k_with "last exec For" => (k_here; walk_at "m_z2")
  k_with "exec For Tuple Call cons nil" => (k_here; walk_at "m_z2")
  k_with "pyIter ref" => (k_here; (with_reducible show wpAny _ _ (pyIter (Value.ref _)) (fun it s₂ => TurnsAt _ _ _ _ _ _ _ _ _ it s₂) _ _); refine Halt.out ?_)
  k_with "pyIter ref" => (k_here; (with_reducible show wpAny _ _ (pyIter (Value.ref _)) (fun it s₂ => TurnsAt _ _ _ _ _ _ _ _ _ it s₂) _ _); (with_unfolding_all refine' iter_listNil ?q9k1 ?q9k2 ?q9k3 ?q9k4 ?_; (case q9k1 => rfl); (case q9k2 => k_asm); (case q9k3 => k_asm); (case q9k4 => walk_at "m_mem"); k_whole); intro _ _ _ _; (try dsimp only); (try k_fold))
  k_with "call type:enumerate" => (k_here; (with_reducible show wpAny _ _ (call (Value.type _) [Value.ref _]) (fun xv s₁ => wpAny _ _ (pyIter xv) (fun it s₂ => TurnsAt _ _ _ _ _ _ _ _ _ it s₂) _ s₁) _ _); (with_unfolding_all refine' enum_nil ?q9k1 ?q9k2 ?q9k3 ?q9k4 ?_; (case q9k1 => rfl); (case q9k2 => k_asm); (case q9k3 => k_asm); (case q9k4 => walk_at "m_mem"); k_whole); intro _ _ _ _; (try dsimp only); (try k_fold))
  k_with "compareOp NotEq ref ref" => (k_here; (with_unfolding_all refine' ne_nils ?q9k1 ?q9k2 ?q9k3 ?q9k4 ?_; (case q9k1 => k_asm); (case q9k2 => walk_at "m_mem"); (case q9k3 => walk_at "m_mem"); (case q9k4 => ktr_units); k_whole))
  k_with "TurnPost" => (dsimp only [TurnPost])
  k_with "call ref" => (k_here; (with_reducible show wpAny _ _ (call (Value.ref 118) _) _ _ _); k_dflt (refine' c_badcode ?q9k1 ?q9k2 ?q9k3 ?q9k4 ?q9k5 ?q9kK ?q9kd ?q9ku ?_; (case q9k1 => k_asm); (case q9k2 => k_asm); (case q9k3 => k_asm); (case q9k4 => k_asm); (case q9k5 => k_asm); (case q9kK => first | exact rfl | assumption); (case q9kd => ktr_room); (case q9ku => ktr_units)); walk_at "m_z3")
  k_with "exec While" => (k_here; refine Rest.out ?_)
  k_with "exec While Compare" => (k_here; refine Rest.out ?_)
  k_with "exec While BoolOp" => (k_here; refine Rest.out ?_)
  k_with "last exec While" => (k_here; refine Rest.out ?_)
  k_with "WhEnd" => (dsimp only [WhEnd])
  k_with "eval Dict" => (k_here; k_dflt (refine' kdn_int ?q9q ?q9F ?q9N ?q9b ?q9a ?q9l ?q9e ?q9n ?_; (case q9q => rfl); (case q9F => k_asm); (case q9N => first | k_asm | exact News.nil); (case q9b => exact Top.nolimit (by k_asm)); (case q9a => rfl); (case q9l => rfl); (case q9e => exact List.cons_ne_nil _ _); (case q9n => exact Nat.le_of_ble_eq_true rfl)); walk_at "m_z5")
  k_with "WhlIf" => (first | (refine WhlIf.yes (by with_unfolding_all rfl) ?_) | (refine WhlIf.no (by with_unfolding_all rfl) ?_) | (refine WhlIf.yes (by simp) ?_) | (refine WhlIf.yes (decide_eq_true (by simp only [List.length_append, List.length_cons, List.length_nil]; omega)) ?_) | fail "WhlIf")
  k_with "call builtin:len" => (k_here; (with_reducible show wpAny _ _ (call (Value.builtin "len") [Value.ref _]) _ _ _); k_dflt (refine' ints_len ?q9k1 ?q9k2 ?q9k3 ?q9k4 ?_; (case q9k1 => k_asm); (case q9k2 => assumption); (case q9k3 => assumption); (case q9k4 => omega); k_whole))
  k_with "call builtin:list.pop" => (k_here; k_dflt (refine' pop_int ?q9k1 ?q9k2 ?q9k3 ?q9k4 ?q9k5 ?_; (case q9k1 => k_asm); (case q9k2 => k_asm); (case q9k3 => walk_at "m_mem"); (case q9k4 => assumption); (case q9k5 => omega); k_whole); intro _ _ _ _ _ _ _ _ _; (try dsimp only))
  k_with "call builtin:list.append" => (k_here; k_dflt (refine' app_int ?q9k1 ?q9k2 ?q9k3 ?q9k4 ?q9k5 ?_; (case q9k1 => k_asm); (case q9k2 => k_asm); (case q9k3 => walk_at "m_mem"); (case q9k4 => assumption); (case q9k5 => omega); k_whole); intro _ _ _ _ _ _ _ _; (try dsimp only))
  k_with "subscriptTail" => (k_here; (with_reducible show wpAny _ _ (subscriptTail _ _ (Value.ref _) (Value.int (Nat.cast (R := Int) _) _)) _ _ _); k_dflt (refine' fs_item ?q9k1 ?q9k2 ?q9k3 ?q9k4 ?q9k5 ?q9k6 ?_; (case q9k1 => k_asm); (case q9k3 => assumption); (case q9k2 => walk_at "m_mem"); (case q9k4 => walk_at "m_fss"); (case q9k5 => walk_at "m_nodup"); (case q9k6 => assumption); k_whole); intro _ _ _ _ _; (try dsimp only))
  k_with "m_fss" => first | assumption | (refine' TupSub.fss ?q9ma ?q9mb; (case q9mb => assumption); (case q9ma => assumption)) | fail "m_fss"
  k_with "m_nodup" => first | assumption | exact SPure.nodup (by assumption)
  k_with "compareOp NotIn" => (k_here; k_dflt (refine' fs_notin ?q9k1 ?q9k2 ?q9k3 ?q9k4 ?q9k5 ?q9k6 ?_ ?_; (case q9k1 => k_asm); (case q9k3 => assumption); (case q9k2 => walk_at "m_mem"); (case q9k4 => assumption); (case q9k5 => walk_at "m_fss"); (case q9k6 => walk_at "m_nodup")) <;> (intros; (try dsimp only)))
  k_with "compareOp NotIn int ref" => walk_at "compareOp NotIn"
  k_with "compareOp NotEq ref ref" => (k_here; k_dflt (refine' ones_ne ?q9k1 ?q9k2 ?q9k3 ?q9k4 ?q9k5 ?q9k6 ?_ ?_; (case q9k1 => k_asm); (case q9k2 => walk_at "m_mem"); (case q9k3 => assumption); (case q9k4 => walk_at "m_mem"); (case q9k5 => assumption); (case q9k6 => ktr_units)) <;> (intros; (try dsimp only)))
  k_with "binaryOp Add ref ref" => (k_here; k_dflt (refine' lists_add0 ?q9k1 ?q9k2 ?q9k3 ?q9k4 ?q9k5 ?_; (case q9k1 => k_asm); (case q9k2 => k_asm); (case q9k3 => walk_at "m_mem"); (case q9k4 => walk_at "m_mem"); (case q9k5 => first | omega | exact lenle (by assumption) (by assumption)); k_whole); intro _ _ _ _ _; (try dsimp only))
  k_with "setItem ref int" => (k_here; k_dflt (refine' set_new ?q9k1 ?q9k2 ?q9k3 ?q9k4 ?q9k5 ?q9k6 ?q9k7 ?q9k8 ?_; (case q9k1 => k_asm); (case q9k2 => k_asm); (case q9k4 => assumption); (case q9k3 => walk_at "m_mem"); (case q9k5 => walk_at "m_fss"); (case q9k6 => assumption); (case q9k7 => assumption); (case q9k8 => omega); k_whole); intro _ _ _ _ _ _ _ _ _ _ _; (try dsimp only))
  k_with "call ref" => (k_here; (with_reducible show wpAny _ _ (call (Value.ref 241) _) _ _ _); k_dflt (refine' c_ways_thrown ?q9k1 ?q9k2 ?q9k3 ?q9k4 ?q9k5 ?q9kK ?q9kd ?q9ku ?q9kU ?q9kC ?q9kA ?q9kf ?q9ki ?q9kw ?_; (case q9k1 => k_asm); (case q9k2 => k_asm); (case q9k3 => k_asm); (case q9k4 => k_asm); (case q9k5 => k_asm); (case q9kK => first | exact rfl | assumption); (case q9kd => ktr_room); (case q9ku => ktr_units); (case q9kU => walk_at "m_unit"); (case q9kC => walk_at "m_mem"); (case q9kA => walk_at "m_code"); (case q9kf => omega); (case q9ki => assumption); (case q9kw => assumption);  k_whole); intro _ _ _ _ _ _ _ _; (try dsimp only); (try k_fold))
  k_with "call ref" => (k_here; (with_reducible show wpAny _ _ (call (Value.ref 262) _) _ _ _); k_dflt (refine' c_ways_on ?q9k1 ?q9k2 ?q9k3 ?q9k4 ?q9k5 ?q9kK ?q9kd ?q9ku ?q9kU ?q9kC ?q9kA ?q9kf ?q9ki ?q9kw ?q9kst ?q9ko ?q9kn ?_ ?_; (case q9k1 => k_asm); (case q9k2 => k_asm); (case q9k3 => k_asm); (case q9k4 => k_asm); (case q9k5 => k_asm); (case q9kK => first | exact rfl | assumption); (case q9kd => ktr_room); (case q9ku => ktr_units); (case q9kU => walk_at "m_unit"); (case q9kC => walk_at "m_mem"); (case q9kA => walk_at "m_code"); (case q9kf => omega); (case q9ki => assumption); (case q9kw => assumption); (case q9kst => walk_at "m_mem"); (case q9ko => assumption); (case q9kn => omega)) <;> (intros; (try dsimp only); (try k_fold)))
  k_with "m_unit" => first | assumption | (refine' UnitIn.mono ?q9ma ?q9mb; (case q9mb => assumption); (case q9ma => (refine Grow.mem ?_; walk_at "m_grow"))) | fail "m_unit"
  k_with "m_code" => first | assumption | (refine' All2.mono ?q9mb ?q9ma; (case q9mb => assumption); (case q9ma => (refine fun _ _ q => InsIn.mono ?_ q; refine Grow.mem ?_; walk_at "m_grow"))) | fail "m_code"
  trivial
set_option maxRecDepth 100000 in
set_option maxHeartbeats 8000000 in
theorem c_stacks_of {w : World} {mean : ExcName → Option Value} {mg mb : Str → Option Value} {dp un : Nat} {gd : Option (List Code)} {cn : Str} {cs : Scope} {a : Addr} {ccd : Value} {cl : List (Str × Addr)} {outer : List Env} {A₀ : Around} {base h₀ : Heap} {L : Addr} {m : Str → Option Value} {news : List (Addr × Obj)} {s : Shared} {Q E : Value → Shared → Prop} {u d C : Addr} {k : Nat → Tok} {P cs' us hs ls cp pp : Addr} {vs : List Value} {kc : Nat} {code : List Ins}
    (hB : Below A₀ base outer h₀) (hF : Fr h₀ L s.heap m) (hK : (hd.heap_1 w.params).In h₀) (hN : News h₀ L s.heap news) (hT : Top seenText (looseW seenText [Str.ofString "OPERATIONS", Str.ofString "LAST_OPS", Str.ofString "QUIET_OPS"]) mean mg mb h₀) (hkd : cs.kind = .function) (hdp : dp + 16 < recursionLimit) (hun : un + 240 < cLine) (hU : UnitIn w news u d k P C cs' us hs ls cp pp) (hC : (C, listOf vs.toArray kc) ∈ news) (hA : All2 (InsIn news) vs code) (hfit : code.length < 2 ^ 62) (hG : GoodCode code)
    (hret : ∀ fd o kvs fs h' tk' n', Fr h₀ L h' m → News h₀ L h' n' → Grow news n' → (fd, o) ∈ n' → (fd == sysModules) = false → o.IsDictOf (PySem.intKind Challenge.rw_sm0039_01.row.prog w) kvs → All2 (FsIn n') kvs fs → Final code fs → Q (.ref fd) { s with heap := h', toks := tk' })
    (hexc : ∀ e h' tk' g₂, Bad code → BadFly base (envX cn cs L a ccd cl :: outer) e news h' → Fr h₀ L g₂ m → g₂.UpToSlots h' → E (.ref e) { s with heap := h', toks := tk' }) :
    wpAny (model Challenge.rw_sm0039_01.row.prog w) (ktrTop dp un gd cn cs L a ccd cl outer) (call (.ref 276) [.ref u]) Q E s := by
  have hsz := hG.size
  have hps := hG.pos
  have hKd := kdMark
  revert hK; k_fill; intro hK
  refine wpAny_call ?_
  k_dflt (refine' code_def (binds := [(Str.ofString "unit", .ref u)]) ?k1 ?k2 ?k3 ?k4 ?k5 ?kA ?kF ?kK ?k6 ?k7 ?k8 ?k9 ?kB ?_ ?c2 ?c3 ?c4 ?c5; (case kA => exact rfl); (case kF => exact rfl); (case kK => first | exact rfl | assumption); (case k1 => k_asm); (case k2 => k_asm); (case k3 => k_asm); (case k4 => k_asm); (case k5 => k_asm); (case k6 => k_is); (case k7 => k_is); (case k8 => ktr_room); (case k9 => exact BindsTo.of_eq rfl); (case c5 => decide); (case kB => exact locs rfl); (case c2 => exact rfl); (case c3 => exact rfl); (case c4 => exact rfl); k_whole; intro g' L' h' FG' F' N' B' X' T'; (try dsimp only); (try k_lift B'); (try k_fold))
  (obtain ⟨hu1, hu2, hu3, hu4, hu5, hu6, hu7⟩ := id hU)
  k_steps
  refine ⟨?_⟩
  rename_i tk0 d0 hA0 oA0 l10 lo0 hd0 D1 hB0 l11 hC0 o0 hd1 l0 hD0 l12 D0 hE0 l13 hF0 hG0 hH0 F0 N0
  have fdl : ∀ p ∈ news, p.1 < d0 := l10
  have wtl : ∀ p ∈ news, p.1 < l0 := tb_ltOf l12.2.2
  have ne0 : d0 ≠ l0 := Nat.ne_of_lt (by omega)
  refine While_J (fun k m₁ n₁ => SInv Challenge.rw_sm0039_01.row.prog w code news u d0 l0 (fun _ => False) k (fun _ => True) m₁ n₁) (n₀ := 2 * code.length) (by first | passes_own | with_unfolding_all passes_own) F0 N0 ?_ ?_
  · refine ⟨by rfl, by rfl, by rfl, by walk_at "m_grow", ⟨o0, _, [(0, 0)], _, [0], 0, by walk_at "m_mem", hd1, ?_, by walk_at "m_mem", .cons _ _ .nil, SPure.start hG, trivial⟩⟩
    exact .cons (.mk (p := 0) (.mk (vs := []) (k := 0) (by walk_at "m_mem") .nil)) .nil
  clear N0 F0 hd1 hd0
  intro k₁ m₁ n₁ h₁ tk₁ F₁ N₁ J₁
  obtain ⟨mu, mf, mw, G₁, o, kvs, fs, us', W, c, ho, hd, hA', hw, hi, hp, -⟩ := J₁
  obtain ⟨r, rfl⟩ := map3 mu mf mw
  clear mu mf mw
  have hfs := hp.fsz hG
  have hws := hp.wsz hG
  rcases List.eq_nil_or_concat W with rfl | ⟨W', p, rfl⟩
  · k_steps
    exact hret _ _ _ _ _ _ _ (by k_asm) (by k_asm) G₁ ho lo0 hd hA' hp.fin
  · rw [List.concat_eq_append] at *
    obtain ⟨⟨hgt, hph⟩, hk0, hp'⟩ := hp.pop
    have hre := hp.reach _ hph
    have hrb := hG.reach hre
    obtain ⟨ins, hins⟩ := hG.at hre
    have hwf : ∀ t, ins.arg = some t → t < code.length := fun t q => (hG.jump _ _ _ hins q).2
    have hsl := ins.succs_len p hgt
    k_steps
    rotate_left
    · exact hexc _ _ _ g' (.inl ⟨p, hgt, ins, hre, hins, by assumption⟩) (BadFly.mono (by assumption) (by intro p9 h9; walk_at "m_mem")) FG' (by assumption)
    rename_i fl9 hX9 tk9 n9 G9 M9 l9 hY9 B9 hZ9 lF9 N9
    with_reducible rename Put l0 _ n₁ _ => P9
    with_reducible rename TupSub n₁ _ => S9
    with_reducible rename IntsAre _ (List.map Int.ofNat W') => I9
    with_reducible rename All2 (PairIn _) _ _ => A9
    with_reducible rename (ins.taken ≤ hgt) => ht9
    rename_i hQ t9 us9 n8 hR tkR x9 ws9 ks9 M8 O9 hR2 tkR2 fl8 vs9 kv9 hR3 tkR3 n7 G8 M7
    have l9d : l9 ≠ d0 := Nat.ne_of_gt (B9 (d0, o) (by walk_at "m_mem"))
    have l9w : l9 ≠ l0 := Nat.ne_of_gt (B9 (l0, _) (by walk_at "m_mem"))
    refine ⟨?_⟩
    refine iter_listC (fun j m n => LInv Challenge.rw_sm0039_01.row.prog w code news u d0 l0 p hgt t9 vs9 (ins.succs p hgt) (k₁ - 1) j m n) (by rfl) lF9 N9 (List.Mem.head _) ?_ ?_ ?_
    · refine ⟨⟨by rfl, by rfl, by rfl, by walk_at "m_grow", ⟨o, kvs, fs, us9, W', c + 1, by walk_at "m_mem", hd, (TupSub.grow (by walk_at "m_grow")).fss (S9.fss hA'), by walk_at "m_mem", I9, hp', hph, by simp⟩⟩, by rfl, (TupSub.grow (by walk_at "m_grow")).pairs A9⟩
    · clear N9 lF9
      rintro I j v m₂ n₂ h₂ tk₂ oI hv ⟨⟨mu, mf, mw, G₂, o₂, kvs₂, fs₂, us₂, W₂, c₂, ho₂, hd₂, hA₂, hw₂, hi₂, hp₂, hph₂, hall₂⟩, mp, hps₂⟩ hk hI hIc F₂ N₂
      obtain ⟨q, hq, hpq⟩ := hps₂.get' hv
      have hrq : Reach code q.1 q.2 := .step hre hins (List.mem_of_getElem? hq)
      have hqb := hG.reach hrq
      obtain ⟨r₂, rfl⟩ := map4 mu mf mw mp
      clear mu mf mw mp
      have hfs₂ := hp₂.fsz hG
      have hws₂ := hp₂.wsz hG
      have T₂ : TupSub n₂ ((I, oI) :: n₂) := .tail
      have hA₃ := T₂.fss hA₂
      have hps₃ := T₂.pairs hps₂
      have hpq₃ := T₂.pair hpq
      have ho₃ : (d0, o₂) ∈ ((I, oI) :: n₂) := .tail _ ho₂
      have hw₃ : (l0, listOf us₂.toArray c₂) ∈ ((I, oI) :: n₂) := .tail _ hw₂
      have G₃ : Grow news ((I, oI) :: n₂) := G₂.tail
      have hk₃ : (l9, listOf vs9.toArray 0) ∈ ((I, oI) :: n₂) := .tail _ hk
      have hI₃ : (I, oI) ∈ ((I, oI) :: n₂) := .head _
      have nI0 : d0 ≠ I := hI _ ho₂
      have nI1 : l0 ≠ I := hI _ hw₂
      have nI2 : l9 ≠ I := hI _ hk
      have nI3 : ∀ p ∈ news, p.1 ≠ I := fun p hp => hI p (G₂.mem p hp)
      have hC₃ : (C, listOf vs.toArray kc) ∈ ((I, oI) :: n₂) := G₃.mem _ hC
      generalize (I, oI) :: n₂ = n₃ at *
      clear hA₂ hps₂ hpq ho₂ hw₂ G₂ hk hI
      obtain ⟨q1, q2⟩ := q
      cases hpq₃ with
      | @mk x₃ t₃ sv₃ cn₃ _ _ hx₃ hs₃ =>
        cases hs₃ with
        | @mk y₃ ws₃ ky₃ _ hy₃ hy₄ =>
          have hs₃ : StkIn n₃ (.ref y₃) q2 := .mk hy₃ hy₄
          k_steps
          · with_reducible rename Put l0 _ _ _ => Pb
            with_reducible rename Put d0 _ _ _ => Pa
            with_reducible rename TupSub n₃ _ => Ta
            with_reducible rename TupSub _ _ => Tb
            with_reducible rename IntsAre _ (List.map Int.ofNat (W₂ ++ [q1])) => Ib
            with_reducible rename All2 (FsIn _) _ (fs₂ ++ [(q1, q2)]) => Ab
            with_reducible rename Obj.IsDictOf _ _ _ => Db
            with_reducible rename News g' L' _ _ => Nb
            with_reducible rename Fr g' L' _ _ => Fb
            with_reducible rename (¬ q1 ∈ _) => hnew
            have hIb := Pb.keep (Pa.keep hI₃ nI0.symm) nI1.symm
            refine ⟨_, _, _, _, rfl, Fb, news_flt Nb hIb, flt_ne, mem_flt (Pb.keep (Pa.keep hk₃ l9d) l9w) nI2, ⟨⟨by rfl, by rfl, by rfl, Grow.flt (Pb.grow (Pa.grow G₃ fdl) wtl) nI3, ⟨_, _, fs₂ ++ [(q1, q2)], _, W₂ ++ [q1], c₂ + 1, mem_flt (Pb.keep Pa.mem ne0) nI0, Db, ((Tb.trans (TupSub.flt Nb hIb hIc)).fss Ab), mem_flt Pb.mem nI1, Ib, hp₂.push hG hrq hnew, List.mem_append_left _ hph₂, take_next hq (fun r hr => List.mem_append_left _ (hall₂ r hr)) (List.mem_append_right _ (.head _))⟩⟩, by rfl, ((Ta.trans Tb).trans (TupSub.flt Nb hIb hIc)).pairs hps₃⟩⟩
          · exact hexc _ _ _ g' (hp₂.bad hrq (by assumption) (by assumption)) (BadFly.mono (by assumption) (fun p hp => G₃.mem p hp)) FG' (by assumption)
          · with_reducible rename News g' L' _ _ => Nb
            with_reducible rename Fr g' L' _ _ => Fb
            with_reducible rename (_ = q2) => heq
            subst heq
            refine ⟨_, _, _, _, rfl, Fb, news_flt Nb hI₃, flt_ne, mem_flt hk₃ nI2, ⟨⟨by rfl, by rfl, by rfl, Grow.flt G₃ nI3, ⟨_, _, fs₂, _, W₂, c₂, mem_flt ho₃ nI0, hd₂, (TupSub.flt Nb hI₃ hIc).fss hA₃, mem_flt hw₃ nI1, hi₂, hp₂, hph₂, take_next hq hall₂ (by assumption)⟩⟩, by rfl, (TupSub.flt Nb hI₃ hIc).pairs hps₃⟩⟩
    · clear N9 lF9
      rintro h₂ tk₂ m₂ n₂ ⟨⟨mu, mf, mw, G₂, o₂, kvs₂, fs₂, us₂, W₂, c₂, ho₂, hd₂, hA₂, hw₂, hi₂, hp₂, hph₂, hall₂⟩, mp, hps₂⟩ hk F₂ N₂
      rw [hps₂.length, List.take_length] at hall₂
      obtain ⟨r₂, rfl⟩ := map4 mu mf mw mp
      k_steps
      exact ⟨⟨_, _, _, _, k₁ - 1, rfl, by k_asm, by k_asm, by omega, mu, mf, mw, G₂, o₂, kvs₂, fs₂, us₂, W₂, c₂, ho₂, hd₂, hA₂, hw₂, hi₂, hp₂.close hph₂ hins ht9 hall₂, trivial⟩⟩
end
section
theorem words_L2_6 : True := by
  k_with_none
  k_with "m_enter" => (refine' code_def ?q9k1 ?q9k2 ?q9k3 ?q9k4 ?q9k5 ?q9kA ?q9kF ?q9kK ?q9k6 ?q9k7 ?q9k8 ?q9k9 ?q9kB ?_ ?q9c2 ?q9c3 ?q9c4 ?q9c5; (case q9kA => exact rfl); (case q9kF => exact rfl); (case q9kK => first | exact rfl | assumption); (case q9k1 => k_asm); (case q9k2 => k_asm); (case q9k3 => k_asm); (case q9k4 => k_asm); (case q9k5 => k_asm); (case q9k6 => k_is); (case q9k7 => k_is); (case q9k8 => ktr_room); (case q9k9 => exact BindsTo.of_eq rfl); (case q9c5 => decide); (case q9kB => exact locs rfl); (case q9c2 => exact rfl); (case q9c3 => exact rfl); (case q9c4 => exact rfl); k_whole; walk_at "m_z0")
  k_with "call ref" => (k_here; k_dflt (first
  | (refine' call_cls ?q9k1 ?q9k2 ?q9k3 ?q9k4 ?q9k5 ?q9k6 ?_; (case q9k1 => k_asm); (case q9k2 => k_asm); (case q9k3 => k_asm); (case q9k4 => k_is); (case q9k5 => k_is); (case q9k6 => k_is); k_whole; walk_at "m_z1")
  | (refine wpAny_call ?_; walk_at "m_enter")))
  k_with "m_start" => (with_reducible rename Frag.In _ _ => hK9; revert hK9; k_fill; intro hK9)
  k_with "call ref" => (k_here; (with_reducible show wpAny _ _ (call (Value.ref 149) _) _ _ _); k_dflt (refine' c_arg_kind ?q9k1 ?q9k2 ?q9k3 ?q9k4 ?q9k5 ?q9kK ?q9kd ?q9ku ?q9kx ?_; (case q9k1 => k_asm); (case q9k2 => k_asm); (case q9k3 => k_asm); (case q9k4 => k_asm); (case q9k5 => k_asm); (case q9kK => first | exact rfl | assumption); (case q9kd => ktr_room); (case q9ku => ktr_units); (case q9kx => first | assumption | exact rfl);  k_whole); intro _ _ _ _ _; (try dsimp only); (try k_fold))
  k_with "call ref" => (k_here; (with_reducible show wpAny _ _ (call (Value.ref 178) _) _ _ _); k_dflt (refine' c_is_count ?q9k1 ?q9k2 ?q9k3 ?q9k4 ?q9k5 ?q9kK ?q9kd ?q9ku  ?_; (case q9k1 => k_asm); (case q9k2 => k_asm); (case q9k3 => k_asm); (case q9k4 => k_asm); (case q9k5 => k_asm); (case q9kK => first | exact rfl | assumption); (case q9kd => ktr_room); (case q9ku => ktr_units);  k_whole); intro _ _ _ _; (try dsimp only); (try k_fold))
  k_with "subscriptTail" => (k_here; (with_reducible show wpAny _ _ (subscriptTail _ _ (Value.ref _) (Value.int (Nat.cast (R := Int) _) _)) _ _ _); k_dflt (refine' code_item ?q9k1 ?q9k2 ?q9k3 ?q9k4 ?q9k5 ?q9k7 ?_ ?_ ?q9k6; (case q9k1 => k_asm); (case q9k3 => k_asm); (case q9k2 => first | assumption | k_memK); (case q9k4 => k_asm); (case q9k5 => k_asm); (case q9k7 => k_asm); (case q9k6 => with_unfolding_all rfl)) <;> (intros; (try k_fold)))
  k_with "call builtin:len" => (k_here; (with_reducible show wpAny _ _ (call (Value.builtin "len") [Value.ref _]) _ _ _); k_dflt (refine' all2_len ?q9k1 ?q9k2 ?q9k3 ?q9k4 ?_; (case q9k1 => k_asm); (case q9k2 => assumption); (case q9k3 => assumption); (case q9k4 => assumption); k_whole))
  trivial
set_option maxRecDepth 100000 in
set_option maxHeartbeats 8000000 in
theorem c_check_arg {w : World} {mean : ExcName → Option Value} {mg mb : Str → Option Value} {dp un : Nat} {gd : Option (List Code)} {cn : Str} {cs : Scope} {a : Addr} {ccd : Value} {cl : List (Str × Addr)} {outer : List Env} {A₀ : Around} {base h₀ : Heap} {L : Addr} {m : Str → Option Value} {news : List (Addr × Obj)} {s : Shared} {Q E : Value → Shared → Prop} {u d C : Addr} {k : Nat → Tok} {P cs' us hs ls cp pp : Addr} {vs : List Value} {kc : Nat} {code : List Ins} {pc : Nat} {t : Tok} {i : Ins}
    (hB : Below A₀ base outer h₀) (hF : Fr h₀ L s.heap m) (hK : (hd.heap_1 w.params).In h₀) (hN : News h₀ L s.heap news) (hT : Top seenText (looseW seenText [Str.ofString "OPERATIONS", Str.ofString "LAST_OPS", Str.ofString "QUIET_OPS"]) mean mg mb h₀) (hkd : cs.kind = .function) (hdp : dp + 4 < recursionLimit) (hun : un + 40 < cLine) (hU : UnitIn w news u d k P C cs' us hs ls cp pp) (hC : (C, listOf vs.toArray kc) ∈ news) (hA : All2 (InsIn news) vs code) (hfit : code.length < 2 ^ 62) (hi : code[pc]? = some i) (hwf : ∀ t, i.arg = some t → t < code.length)
    (hret : ∀ h' tk', Fr h₀ L h' m → News h₀ L h' news → Q (.none) { s with heap := h', toks := tk' }) :
    wpAny (model Challenge.rw_sm0039_01.row.prog w) (ktrTop dp un gd cn cs L a ccd cl outer) (call (.ref 192) [.ref u, .int (pc : Int) t]) Q E s := by
  obtain ⟨hu1, hu2, hu3, hu4, hu5, hu6, hu7⟩ := hU
  obtain ⟨hr1, hr2⟩ := op_range i
  walk_at "m_start"
  refine wpAny_call ?_
  k_dflt (walk_at "m_enter")
  k_steps
  all_goals (first | exact hret _ _ (by k_asm) (by k_asm) | trace_state)
end
section
theorem words_W2_10 : True := by
  k_with_none
  k_with "m_mem" => first | assumption | exact List.Mem.head _ | (refine List.mem_cons_of_mem _ ?_; walk_at "m_mem") | (refine List.mem_append_left _ ?_; walk_at "m_mem") | (refine List.mem_append_right _ ?_; walk_at "m_mem") | exact Put.mem (by assumption) | (refine' Grow.mem ?q9mg _ ?q9mh; (case q9mg => with_reducible assumption); (case q9mh => walk_at "m_mem")) | (refine' Put.keep ?q9mp ?q9mh ?q9mn; (case q9mp => with_reducible assumption); (case q9mh => walk_at "m_mem"); (case q9mn => walk_at "m_ne")) | (refine' Grow.mem ?q9mg _ ?q9mh; (case q9mh => with_reducible assumption); (case q9mg => walk_at "m_grow")) | fail "m_mem"
  k_with "m_ne" => first | assumption | exact Ne.symm (by assumption) | (refine Nat.ne_of_lt ?_; walk_at "m_lt") | (refine Nat.ne_of_gt ?_; walk_at "m_lt") | fail "m_ne"
  k_with "m_lt" => first | assumption | omega | (refine' lt_mem ?q9ma ?q9mb; (case q9mb => assumption); (case q9ma => first | assumption | exact tb_ltOf (by assumption))) | (solve_by_elim (config := { maxDepth := 3 })) | fail "m_lt"
  k_with "m_below" => first | assumption | (refine tb_ltOf ?_; (try simp only [AllLt, and_true]); first | assumption | omega) | fail "m_below"
  k_with "m_grow" => first | exact Grow.refl _ | assumption | (refine' Grow.cons ?q9ml ?q9mg; (case q9ml => walk_at "m_below"); (case q9mg => walk_at "m_grow")) | (refine' Grow.trans ?q9mg ?q9mk; (case q9mk => assumption); (case q9mg => walk_at "m_grow")) | (refine' Put.grow ?q9mp ?q9mg ?q9ml; (case q9mp => with_reducible assumption); (case q9ml => walk_at "m_below"); (case q9mg => walk_at "m_grow")) | fail "m_grow"
  k_with "m_news" => first | k_asm | (refine' cb_drop ?q9mN ?q9mS; (case q9mN => assumption); (case q9mS => (intro _ _; walk_at "m_mem"))) | fail "m_news"
  k_with "m_enter" => (refine' code_def ?q9k1 ?q9k2 ?q9k3 ?q9k4 ?q9k5 ?q9kA ?q9kF ?q9kK ?q9k6 ?q9k7 ?q9k8 ?q9k9 ?q9kB ?_ ?q9c2 ?q9c3 ?q9c4 ?q9c5; (case q9kA => exact rfl); (case q9kF => exact rfl); (case q9kK => first | exact rfl | assumption); (case q9k1 => k_asm); (case q9k2 => k_asm); (case q9k3 => k_asm); (case q9k4 => k_asm); (case q9k5 => k_asm); (case q9k6 => k_is); (case q9k7 => k_is); (case q9k8 => ktr_room); (case q9k9 => exact BindsTo.of_eq rfl); (case q9c5 => decide); (case q9kB => exact locs rfl); (case q9c2 => exact rfl); (case q9c3 => exact rfl); (case q9c4 => exact rfl); k_whole; walk_at "m_z0")
  k_with "call ref" => (k_here; k_dflt (first
  | (refine' call_cls ?q9k1 ?q9k2 ?q9k3 ?q9k4 ?q9k5 ?q9k6 ?_; (case q9k1 => k_asm); (case q9k2 => k_asm); (case q9k3 => k_asm); (case q9k4 => k_is); (case q9k5 => k_is); (case q9k6 => k_is); k_whole; walk_at "m_z1")
  | (refine wpAny_call ?_; walk_at "m_enter")))
  k_with "m_start" => (with_reducible rename Frag.In _ _ => hK9; revert hK9; k_fill; intro hK9)
  k_with "subscriptTail" => (k_here; (with_reducible show wpAny _ _ (subscriptTail _ _ (Value.ref _) (Value.int (Nat.cast (R := Int) _) _)) _ _ _); k_dflt (refine' code_item ?q9k1 ?q9k2 ?q9k3 ?q9k4 ?q9k5 ?q9k7 ?_ ?_ ?q9k6; (case q9k1 => k_asm); (case q9k3 => k_asm); (case q9k2 => walk_at "m_mem"); (case q9k4 => k_asm); (case q9k5 => k_asm); (case q9k7 => k_asm); (case q9k6 => with_unfolding_all rfl)) <;> (intros; (try k_fold)))
  k_with "call builtin:len" => (k_here; (with_reducible show wpAny _ _ (call (Value.builtin "len") [Value.ref _]) _ _ _); k_dflt (refine' all2_len ?q9k1 ?q9k2 ?q9k3 ?q9k4 ?_; (case q9k1 => k_asm); (case q9k2 => assumption); (case q9k3 => assumption); (case q9k4 => assumption); k_whole))
  k_with "m_unit" => first | assumption | (refine' UnitIn.mono ?q9ma ?q9mb; (case q9mb => assumption); (case q9ma => (refine Grow.mem ?_; walk_at "m_grow"))) | fail "m_unit"
  k_with "m_code" => first | assumption | (refine' All2.mono ?q9mb ?q9ma; (case q9mb => assumption); (case q9ma => (refine fun _ _ q => InsIn.mono ?_ q; refine Grow.mem ?_; walk_at "m_grow"))) | fail "m_code"
  k_with "call ref" => (k_here; (with_reducible show wpAny _ _ (call (Value.ref 206) _) _ _ _); k_dflt (refine' c_check_head ?q9k1 ?q9k2 ?q9k3 ?q9k4 ?q9k5 ?q9kK ?q9kd ?q9ku ?q9kU ?q9kC ?q9kA ?q9kp ?q9kf ?_; (case q9k1 => k_asm); (case q9k2 => k_asm); (case q9k3 => k_asm); (case q9k4 => k_asm); (case q9k5 => k_asm); (case q9kK => first | exact rfl | assumption); (case q9kd => ktr_room); (case q9ku => ktr_units); (case q9kU => walk_at "m_unit"); (case q9kC => walk_at "m_mem"); (case q9kA => walk_at "m_code"); (case q9kp => omega); (case q9kf => omega);  k_whole); intro _ _ _ _; (try dsimp only); (try k_fold))
  k_with "call ref" => (k_here; (with_reducible show wpAny _ _ (call (Value.ref 220) _) _ _ _); k_dflt (refine' c_check_handlers ?q9k1 ?q9k2 ?q9k3 ?q9k4 ?q9k5 ?q9kK ?q9kd ?q9ku ?q9kU ?q9kC ?q9kA ?q9kp ?q9kf ?_; (case q9k1 => k_asm); (case q9k2 => k_asm); (case q9k3 => k_asm); (case q9k4 => k_asm); (case q9k5 => k_asm); (case q9kK => first | exact rfl | assumption); (case q9kd => ktr_room); (case q9ku => ktr_units); (case q9kU => walk_at "m_unit"); (case q9kC => walk_at "m_mem"); (case q9kA => walk_at "m_code"); (case q9kp => omega); (case q9kf => omega);  k_whole); intro _ _ _ _; (try dsimp only); (try k_fold))
  k_with "call ref" => (k_here; (with_reducible show wpAny _ _ (call (Value.ref 192) _) _ _ _); k_dflt (refine' c_check_arg ?q9k1 ?q9k2 ?q9k3 ?q9k4 ?q9k5 ?q9kK ?q9kd ?q9ku ?q9kU ?q9kC ?q9kA ?q9kf ?q9ki ?q9kw ?_; (case q9k1 => k_asm); (case q9k2 => k_asm); (case q9k3 => k_asm); (case q9k4 => k_asm); (case q9k5 => k_asm); (case q9kK => first | exact rfl | assumption); (case q9kd => ktr_room); (case q9ku => ktr_units); (case q9kU => walk_at "m_unit"); (case q9kC => walk_at "m_mem"); (case q9kA => walk_at "m_code"); (case q9kf => omega); (case q9ki => assumption); (case q9kw => assumption);  k_whole); intro _ _ _ _; (try dsimp only); (try k_fold))
  k_with "call ref" => (k_here; (with_reducible show wpAny _ _ (call (Value.ref 276) _) _ _ _); k_dflt (refine' c_stacks_of ?q9k1 ?q9k2 ?q9k3 ?q9k4 ?q9k5 ?q9kK ?q9kd ?q9ku ?q9kU ?q9kC ?q9kA ?q9kf ?q9kG ?_ ?_; (case q9k1 => k_asm); (case q9k2 => k_asm); (case q9k3 => k_asm); (case q9k4 => k_asm); (case q9k5 => k_asm); (case q9kK => first | exact rfl | assumption); (case q9kd => ktr_room); (case q9ku => ktr_units); (case q9kU => walk_at "m_unit"); (case q9kC => walk_at "m_mem"); (case q9kA => walk_at "m_code"); (case q9kf => omega); (case q9kG => assumption); ) <;> (intros; (try dsimp only); (try k_fold)))
  k_with "pyIter ref" => (k_here; (with_reducible show wpAny _ _ (pyIter (Value.ref _)) (fun it s₂ => LoopAtV _ _ _ _ _ _ _ _ _ it s₂) _ _); refine Rest.out ?_)
  trivial
set_option maxRecDepth 100000 in
set_option maxHeartbeats 8000000 in
theorem c_check_one {w : World} {mean : ExcName → Option Value} {mg mb : Str → Option Value} {dp un : Nat} {gd : Option (List Code)} {cn : Str} {cs : Scope} {a : Addr} {ccd : Value} {cl : List (Str × Addr)} {outer : List Env} {A₀ : Around} {base h₀ : Heap} {L : Addr} {m : Str → Option Value} {news : List (Addr × Obj)} {s : Shared} {Q E : Value → Shared → Prop} {u d C : Addr} {k : Nat → Tok} {P cs' us hs ls cp pp : Addr} {vs : List Value} {kc : Nat} {code : List Ins}
    (hB : Below A₀ base outer h₀) (hF : Fr h₀ L s.heap m) (hK : (hd.heap_1 w.params).In h₀) (hN : News h₀ L s.heap news) (hT : Top seenText (looseW seenText [Str.ofString "OPERATIONS", Str.ofString "LAST_OPS", Str.ofString "QUIET_OPS"]) mean mg mb h₀) (hkd : cs.kind = .function) (hdp : dp + 20 < recursionLimit) (hun : un + 300 < cLine) (hU : UnitIn w news u d k P C cs' us hs ls cp pp) (hC : (C, listOf vs.toArray kc) ∈ news) (hA : All2 (InsIn news) vs code) (hfit : code.length < 2 ^ 62) (hG : GoodCode code)
    (hret : ∀ h' tk' n', Fr h₀ L h' m → News h₀ L h' n' → Grow news n' → ¬ Bad code → Q .none { s with heap := h', toks := tk' })
    (hexc : ∀ e h' tk' g₂, Bad code → BadFly base (envX cn cs L a ccd cl :: outer) e news h' → Fr h₀ L g₂ m → g₂.UpToSlots h' → E (.ref e) { s with heap := h', toks := tk' }) :
    wpAny (model Challenge.rw_sm0039_01.row.prog w) (ktrTop dp un gd cn cs L a ccd cl outer) (call (.ref 283) [.ref u]) Q E s := by
  have hsz := hG.size
  have hps := hG.pos
  have hKd := kdMark
  have hC2 := hC
  revert hK; k_fill; intro hK
  refine wpAny_call ?_
  k_dflt (refine' code_def (binds := [(Str.ofString "unit", .ref u)]) ?k1 ?k2 ?k3 ?k4 ?k5 ?kA ?kF ?kK ?k6 ?k7 ?k8 ?k9 ?kB ?_ ?c2 ?c3 ?c4 ?c5; (case kA => exact rfl); (case kF => exact rfl); (case kK => first | exact rfl | assumption); (case k1 => k_asm); (case k2 => k_asm); (case k3 => k_asm); (case k4 => k_asm); (case k5 => k_asm); (case k6 => k_is); (case k7 => k_is); (case k8 => ktr_room); (case k9 => exact BindsTo.of_eq rfl); (case c5 => decide); (case kB => exact locs rfl); (case c2 => exact rfl); (case c3 => exact rfl); (case c4 => exact rfl); k_whole; intro g' L' h' FG' F' N' B' X' T'; (try dsimp only); (try k_lift B'); (try k_fold))
  (obtain ⟨hu1, hu2, hu3, hu4, hu5, hu6, hu7⟩ := id hU)
  k_steps
  refine ⟨?_⟩
  with_reducible rename IsRange _ _ _ _ _ _ _ _ => hR9
  with_reducible rename Fr g' L' _ _ => F9
  with_reducible rename News g' L' _ _ => N9
  refine kow_range [] (by rfl) hR9 (range_small _ (by omega)) (range_len _) F9 N9 ?_ ?_
  · clear hR9 F9 N9
    intro kk t₂ u₂ h₂ tk₂ I oI hk0 hk1 F₂ N₂ l₂
    simp only [List.contains_nil, Bool.false_eq_true, if_false] at F₂
    obtain ⟨p, rfl⟩ : ∃ p : Nat, kk = (p : Int) := ⟨kk.toNat, by omega⟩
    obtain ⟨ins, hins⟩ : ∃ i, code[p]? = some i := ⟨_, List.getElem?_eq_getElem (by omega)⟩
    have hwf : ∀ t, ins.arg = some t → t < code.length := fun t q => (hG.jump _ _ _ hins q).2
    k_steps
  · clear hR9 F9 N9
    intro u₂ h₂ tk₂ F₂ N₂
    simp only [List.contains_nil, Bool.false_eq_true, if_false] at F₂
    k_steps
    · exact hret _ _ _ (by k_asm) (by k_asm) (by walk_at "m_grow") (Final.good (by assumption))
    · exact hexc _ _ _ g' (by assumption) (BadFly.mono (by assumption) (by intro p9 h9; walk_at "m_mem")) FG' (by assumption)
end
section
theorem words_W3_11 : True := by
  k_with_none
  k_with "m_mem" => first | assumption | exact List.Mem.head _ | (refine List.mem_cons_of_mem _ ?_; walk_at "m_mem") | (refine List.mem_append_left _ ?_; walk_at "m_mem") | (refine List.mem_append_right _ ?_; walk_at "m_mem") | exact Put.mem (by assumption) | (refine' Grow.mem ?q9mg _ ?q9mh; (case q9mg => with_reducible assumption); (case q9mh => walk_at "m_mem")) | (refine' Put.keep ?q9mp ?q9mh ?q9mn; (case q9mp => with_reducible assumption); (case q9mh => walk_at "m_mem"); (case q9mn => walk_at "m_ne")) | (refine' Grow.mem ?q9mg _ ?q9mh; (case q9mh => with_reducible assumption); (case q9mg => walk_at "m_grow")) | fail "m_mem"
  k_with "m_ne" => first | assumption | exact Ne.symm (by assumption) | (refine Nat.ne_of_lt ?_; walk_at "m_lt") | (refine Nat.ne_of_gt ?_; walk_at "m_lt") | fail "m_ne"
  k_with "m_lt" => first | assumption | omega | (refine' lt_mem ?q9ma ?q9mb; (case q9mb => assumption); (case q9ma => first | assumption | exact tb_ltOf (by assumption))) | (solve_by_elim (config := { maxDepth := 3 })) | fail "m_lt"
  k_with "m_below" => first | assumption | (refine tb_ltOf ?_; (try simp only [AllLt, and_true]); first | assumption | omega) | fail "m_below"
  k_with "m_grow" => first | exact Grow.refl _ | assumption | (refine' Grow.cons ?q9ml ?q9mg; (case q9ml => walk_at "m_below"); (case q9mg => walk_at "m_grow")) | (refine' Grow.trans ?q9mg ?q9mk; (case q9mk => assumption); (case q9mg => walk_at "m_grow")) | (refine' Put.grow ?q9mp ?q9mg ?q9ml; (case q9mp => with_reducible assumption); (case q9ml => walk_at "m_below"); (case q9mg => walk_at "m_grow")) | fail "m_grow"
  k_with "m_news" => first | k_asm | (refine' cb_drop ?q9mN ?q9mS; (case q9mN => assumption); (case q9mS => (intro _ _; walk_at "m_mem"))) | fail "m_news"
  k_with "m_enter" => (refine' code_def ?q9k1 ?q9k2 ?q9k3 ?q9k4 ?q9k5 ?q9kA ?q9kF ?q9kK ?q9k6 ?q9k7 ?q9k8 ?q9k9 ?q9kB ?_ ?q9c2 ?q9c3 ?q9c4 ?q9c5; (case q9kA => exact rfl); (case q9kF => exact rfl); (case q9kK => first | exact rfl | assumption); (case q9k1 => k_asm); (case q9k2 => k_asm); (case q9k3 => k_asm); (case q9k4 => k_asm); (case q9k5 => k_asm); (case q9k6 => k_is); (case q9k7 => k_is); (case q9k8 => ktr_room); (case q9k9 => exact BindsTo.of_eq rfl); (case q9c5 => decide); (case q9kB => exact locs rfl); (case q9c2 => exact rfl); (case q9c3 => exact rfl); (case q9c4 => exact rfl); k_whole; walk_at "m_z0")
  k_with "call ref" => (k_here; k_dflt (first
  | (refine' call_cls ?q9k1 ?q9k2 ?q9k3 ?q9k4 ?q9k5 ?q9k6 ?_; (case q9k1 => k_asm); (case q9k2 => k_asm); (case q9k3 => k_asm); (case q9k4 => k_is); (case q9k5 => k_is); (case q9k6 => k_is); k_whole; walk_at "m_z1")
  | (refine wpAny_call ?_; walk_at "m_enter")))
  k_with "m_start" => (with_reducible rename Frag.In _ _ => hK9; revert hK9; k_fill; intro hK9)
  k_with "m_unit" => first | assumption | (refine' UnitIn.mono ?q9ma ?q9mb; (case q9mb => assumption); (case q9ma => (refine Grow.mem ?_; walk_at "m_grow"))) | fail "m_unit"
  k_with "m_code" => first | assumption | (refine' All2.mono ?q9mb ?q9ma; (case q9mb => assumption); (case q9ma => (refine fun _ _ q => InsIn.mono ?_ q; refine Grow.mem ?_; walk_at "m_grow"))) | fail "m_code"
  k_with "call ref" => (k_here; (with_reducible show wpAny _ _ (call (Value.ref 283) _) _ _ _); k_dflt (refine' c_check_one ?q9k1 ?q9k2 ?q9k3 ?q9k4 ?q9k5 ?q9kK ?q9kd ?q9ku ?q9kU ?q9kC ?q9kA ?q9kf ?q9kG ?_ ?_; (case q9k1 => k_asm); (case q9k2 => k_asm); (case q9k3 => k_asm); (case q9k4 => k_asm); (case q9k5 => k_asm); (case q9kK => first | exact rfl | assumption); (case q9kd => ktr_room); (case q9ku => ktr_units); (case q9kU => walk_at "m_unit"); (case q9kC => walk_at "m_mem"); (case q9kA => walk_at "m_code"); (case q9kf => omega); (case q9kG => assumption); ) <;> (intros; (try dsimp only); (try k_fold)))
  k_with "call builtin:list.extend" => (k_here; k_dflt (refine' ext_nil ?q9k1 ?q9k2 ?q9k3 ?q9k4 ?q9k5 ?_; (case q9k1 => k_asm); (case q9k2 => k_asm); (case q9k3 => walk_at "m_mem"); (case q9k4 => walk_at "m_mem"); (case q9k5 => walk_at "m_ne"); k_whole); intro _ _ _ _ _; (try dsimp only))
  trivial
set_option maxRecDepth 100000 in
set_option maxHeartbeats 8000000 in
theorem c_check_unit {w : World} {mean : ExcName → Option Value} {mg mb : Str → Option Value} {dp un : Nat} {gd : Option (List Code)} {cn : Str} {cs : Scope} {a : Addr} {ccd : Value} {cl : List (Str × Addr)} {outer : List Env} {A₀ : Around} {base h₀ : Heap} {L : Addr} {m : Str → Option Value} {news : List (Addr × Obj)} {s : Shared} {Q E : Value → Shared → Prop} {u d C : Addr} {k : Nat → Tok} {P cs' us hs ls cp pp : Addr} {vs : List Value} {kc : Nat} {code : List Ins}
    (hB : Below A₀ base outer h₀) (hF : Fr h₀ L s.heap m) (hK : (hd.heap_1 w.params).In h₀) (hN : News h₀ L s.heap news) (hT : Top seenText (looseW seenText [Str.ofString "OPERATIONS", Str.ofString "LAST_OPS", Str.ofString "QUIET_OPS"]) mean mg mb h₀) (hkd : cs.kind = .function) (hdp : dp + 24 < recursionLimit) (hun : un + 360 < cLine) (hU : UnitIn w news u d k P C cs' us hs ls cp pp) (hC : (C, listOf vs.toArray kc) ∈ news) (hA : All2 (InsIn news) vs code) (hfit : code.length < 2 ^ 62) (hG : GoodCode code)
    (hret : ∀ h' tk' n', Fr h₀ L h' m → News h₀ L h' n' → Grow news n' → ¬ Bad code → Q .none { s with heap := h', toks := tk' })
    (hexc : ∀ e h' tk' g₂, Bad code → BadFly base (envX cn cs L a ccd cl :: outer) e news h' → Fr h₀ L g₂ m → g₂.UpToSlots h' → E (.ref e) { s with heap := h', toks := tk' }) :
    wpAny (model Challenge.rw_sm0039_01.row.prog w) (ktrTop dp un gd cn cs L a ccd cl outer) (call (.ref 290) [.ref u]) Q E s := by
  have hsz := hG.size
  have hps := hG.pos
  have hKd := kdMark
  revert hK; k_fill; intro hK
  refine wpAny_call ?_
  k_dflt (refine' code_def (binds := [(Str.ofString "unit", .ref u)]) ?k1 ?k2 ?k3 ?k4 ?k5 ?kA ?kF ?kK ?k6 ?k7 ?k8 ?k9 ?kB ?_ ?c2 ?c3 ?c4 ?c5; (case kA => exact rfl); (case kF => exact rfl); (case kK => first | exact rfl | assumption); (case k1 => k_asm); (case k2 => k_asm); (case k3 => k_asm); (case k4 => k_asm); (case k5 => k_asm); (case k6 => k_is); (case k7 => k_is); (case k8 => ktr_room); (case k9 => exact BindsTo.of_eq rfl); (case c5 => decide); (case kB => exact locs rfl); (case c2 => exact rfl); (case c3 => exact rfl); (case c4 => exact rfl); k_whole; intro g' L' h' FG' F' N' B' X' T'; (try dsimp only); (try k_lift B'); (try k_fold))
  (obtain ⟨hu1, hu2, hu3, hu4, hu5, hu6, hu7⟩ := id hU)
  k_steps
  · exact hret _ _ _ (by k_asm) (by k_asm) (by walk_at "m_grow") (by assumption)
  · exact hexc _ _ _ g' (by assumption) (BadFly.mono (by assumption) (by intro p9 h9; walk_at "m_mem")) FG' (by assumption)
end
section
theorem words_W4_12 : True := by
  k_with_none
  k_with "m_mem" => first | assumption | exact List.Mem.head _ | (refine List.mem_cons_of_mem _ ?_; walk_at "m_mem") | (refine List.mem_append_left _ ?_; walk_at "m_mem") | (refine List.mem_append_right _ ?_; walk_at "m_mem") | exact Put.mem (by assumption) | (refine' Grow.mem ?q9mg _ ?q9mh; (case q9mg => with_reducible assumption); (case q9mh => walk_at "m_mem")) | (refine' Put.keep ?q9mp ?q9mh ?q9mn; (case q9mp => with_reducible assumption); (case q9mh => walk_at "m_mem"); (case q9mn => walk_at "m_ne")) | (refine' Grow.mem ?q9mg _ ?q9mh; (case q9mh => with_reducible assumption); (case q9mg => walk_at "m_grow")) | fail "m_mem"
  k_with "m_ne" => first | assumption | exact Ne.symm (by assumption) | (refine Nat.ne_of_lt ?_; walk_at "m_lt") | (refine Nat.ne_of_gt ?_; walk_at "m_lt") | fail "m_ne"
  k_with "m_lt" => first | assumption | omega | (refine' lt_mem ?q9ma ?q9mb; (case q9mb => assumption); (case q9ma => first | assumption | exact tb_ltOf (by assumption))) | (solve_by_elim (config := { maxDepth := 3 })) | fail "m_lt"
  k_with "m_below" => first | assumption | (refine tb_ltOf ?_; (try simp only [AllLt, and_true]); first | assumption | omega) | fail "m_below"
  k_with "m_grow" => first | exact Grow.refl _ | assumption | (refine' Grow.cons ?q9ml ?q9mg; (case q9ml => walk_at "m_below"); (case q9mg => walk_at "m_grow")) | (refine' Grow.trans ?q9mg ?q9mk; (case q9mk => assumption); (case q9mg => walk_at "m_grow")) | (refine' Put.grow ?q9mp ?q9mg ?q9ml; (case q9mp => with_reducible assumption); (case q9ml => walk_at "m_below"); (case q9mg => walk_at "m_grow")) | fail "m_grow"
  k_with "m_news" => first | k_asm | (refine' cb_drop ?q9mN ?q9mS; (case q9mN => assumption); (case q9mS => (intro _ _; walk_at "m_mem"))) | fail "m_news"
  k_with "m_enter" => (refine' code_def ?q9k1 ?q9k2 ?q9k3 ?q9k4 ?q9k5 ?q9kA ?q9kF ?q9kK ?q9k6 ?q9k7 ?q9k8 ?q9k9 ?q9kB ?_ ?q9c2 ?q9c3 ?q9c4 ?q9c5; (case q9kA => exact rfl); (case q9kF => exact rfl); (case q9kK => first | exact rfl | assumption); (case q9k1 => k_asm); (case q9k2 => k_asm); (case q9k3 => k_asm); (case q9k4 => k_asm); (case q9k5 => k_asm); (case q9k6 => k_is); (case q9k7 => k_is); (case q9k8 => ktr_room); (case q9k9 => exact BindsTo.of_eq rfl); (case q9c5 => decide); (case q9kB => exact locs rfl); (case q9c2 => exact rfl); (case q9c3 => exact rfl); (case q9c4 => exact rfl); k_whole; walk_at "m_z0")
  k_with "call ref" => (k_here; k_dflt (first
  | (refine' call_cls ?q9k1 ?q9k2 ?q9k3 ?q9k4 ?q9k5 ?q9k6 ?_; (case q9k1 => k_asm); (case q9k2 => k_asm); (case q9k3 => k_asm); (case q9k4 => k_is); (case q9k5 => k_is); (case q9k6 => k_is); k_whole; walk_at "m_z1")
  | (refine wpAny_call ?_; walk_at "m_enter")))
  k_with "m_start" => (with_reducible rename Frag.In _ _ => hK9; revert hK9; k_fill; intro hK9)
  k_with "m_unit" => first | assumption | (refine' UnitIn.mono ?q9ma ?q9mb; (case q9mb => assumption); (case q9ma => (refine Grow.mem ?_; walk_at "m_grow"))) | fail "m_unit"
  k_with "m_code" => first | assumption | (refine' All2.mono ?q9mb ?q9ma; (case q9mb => assumption); (case q9ma => (refine fun _ _ q => InsIn.mono ?_ q; refine Grow.mem ?_; walk_at "m_grow"))) | fail "m_code"
  k_with "call ref" => (k_here; (with_reducible show wpAny _ _ (call (Value.ref 290) _) _ _ _); k_dflt (refine' c_check_unit ?q9k1 ?q9k2 ?q9k3 ?q9k4 ?q9k5 ?q9kK ?q9kd ?q9ku ?q9kU ?q9kC ?q9kA ?q9kf ?q9kG ?_ ?_; (case q9k1 => k_asm); (case q9k2 => k_asm); (case q9k3 => k_asm); (case q9k4 => k_asm); (case q9k5 => k_asm); (case q9kK => first | exact rfl | assumption); (case q9kd => ktr_room); (case q9ku => ktr_units); (case q9kU => walk_at "m_unit"); (case q9kC => walk_at "m_mem"); (case q9kA => walk_at "m_code"); (case q9kf => omega); (case q9kG => assumption); ) <;> (intros; (try dsimp only); (try k_fold)))
  k_with "LeaveT" => (refine LeaveT.mk (.inl ?_); walk_at "LeaveK")
  k_with "noteFrame ref" => (k_here; refine Rest.out ?_)
  trivial
set_option maxRecDepth 100000 in
set_option maxHeartbeats 8000000 in
theorem c_is_right {w : World} {mean : ExcName → Option Value} {mg mb : Str → Option Value} {dp un : Nat} {gd : Option (List Code)} {cn : Str} {cs : Scope} {a : Addr} {ccd : Value} {cl : List (Str × Addr)} {outer : List Env} {A₀ : Around} {h₀ : Heap} {L : Addr} {m : Str → Option Value} {news : List (Addr × Obj)} {s : Shared} {Q E : Value → Shared → Prop} {u d C : Addr} {k : Nat → Tok} {P cs' us hs ls cp pp : Addr} {vs : List Value} {kc : Nat} {code : List Ins}
    (hB : Below A₀ h₀ outer h₀) (hF : Fr h₀ L s.heap m) (hK : (hd.heap_1 w.params).In h₀) (hN : News h₀ L s.heap news) (hT : Top seenText (looseW seenText [Str.ofString "OPERATIONS", Str.ofString "LAST_OPS", Str.ofString "QUIET_OPS"]) mean mg mb h₀) (hkd : cs.kind = .function) (hdp : dp + 28 < recursionLimit) (hun : un + 420 < cLine) (hU : UnitIn w news u d k P C cs' us hs ls cp pp) (hC : (C, listOf vs.toArray kc) ∈ news) (hA : All2 (InsIn news) vs code) (hfit : code.length < 2 ^ 62) (hG : GoodCode code)
    (hret : ∀ b h' tk' n', Fr h₀ L h' m → News h₀ L h' n' → Grow news n' → (b = true ↔ ¬ Bad code) → Q (.bool b) { s with heap := h', toks := tk' }) :
    wpAny (model Challenge.rw_sm0039_01.row.prog w) (ktrTop dp un gd cn cs L a ccd cl outer) (call (.ref 297) [.ref u]) Q E s := by
  have hsz := hG.size
  have hps := hG.pos
  have hKd := kdMark
  revert hK; k_fill; intro hK
  refine wpAny_call ?_
  k_dflt (refine' code_try (binds := [(Str.ofString "unit", .ref u)]) ?k1 ?k2 ?k3 ?k4 ?k5 ?kA ?kF ?kK ?k6 ?k7 ?k8 ?k9 ?kB ?_ ?c2 ?c3 ?c4 ?c5; (case kA => exact rfl); (case kF => exact rfl); (case kK => first | exact rfl | assumption); (case k1 => k_asm); (case k2 => k_asm); (case k3 => k_asm); (case k4 => k_asm); (case k5 => k_asm); (case k6 => k_is); (case k7 => k_is); (case k8 => ktr_room); (case k9 => exact BindsTo.of_eq rfl); (case c5 => decide); (case kB => exact locs rfl); (case c2 => exact rfl); (case c3 => exact rfl); (case c4 => exact rfl); k_whole; intro g' L' h' FG' F' N' B' X' T'; (try dsimp only); (try k_lift B'); (try k_fold))
  (obtain ⟨hu1, hu2, hu3, hu4, hu5, hu6, hu7⟩ := id hU)
  k_steps
  · exact hret _ _ _ _ (by k_asm) (by k_asm) (by walk_at "m_grow") (by simp; assumption)
  · refine ⟨?_⟩
    with_reducible rename (Bad code) => hbad
    with_reducible rename BadFly _ _ _ _ _ => hfly
    with_reducible rename Heap.UpToSlots _ _ => hup
    with_reducible rename Fr g' L' _ _ => F9
    refine caught_bad B'.stack ⟨F9.ns, fun b o e => F9.keep b o (FG'.keep b o e), Nat.le_trans FG'.above (Nat.le_trans (Nat.le_of_lt FG'.ns.lt) F9.above)⟩ hup (BadFly.mono hfly (n' := news) (by intro p9 h9; walk_at "m_mem")) hK hT (.inl (by k_is)) (by first | exact rfl | kernel_rfl! | decide) ?_
    intro h6 F6 N6 U6 S6
    k_steps
    refine LeaveT.mk (.inr ?_)
    exact hret false _ _ news (FG'.of_stays S6 ((Heap.UpToSlots.of_keeps F9.keep).trans (hup.trans U6))) (fun p hp => ⟨N6 p hp, (hN p hp).2.1, (hN p hp).2.2⟩) (.refl _) (by simp; exact hbad)
end
section
theorem words_W5_13 : True := by
  k_with_none
  k_with "m_mem" => first | assumption | exact List.Mem.head _ | (refine List.mem_cons_of_mem _ ?_; walk_at "m_mem") | (refine List.mem_append_left _ ?_; walk_at "m_mem") | (refine List.mem_append_right _ ?_; walk_at "m_mem") | exact Put.mem (by assumption) | (refine' Grow.mem ?q9mg _ ?q9mh; (case q9mg => with_reducible assumption); (case q9mh => walk_at "m_mem")) | (refine' Put.keep ?q9mp ?q9mh ?q9mn; (case q9mp => with_reducible assumption); (case q9mh => walk_at "m_mem"); (case q9mn => walk_at "m_ne")) | (refine' Grow.mem ?q9mg _ ?q9mh; (case q9mh => with_reducible assumption); (case q9mg => walk_at "m_grow")) | fail "m_mem"
  k_with "m_ne" => first | assumption | exact Ne.symm (by assumption) | (refine Nat.ne_of_lt ?_; walk_at "m_lt") | (refine Nat.ne_of_gt ?_; walk_at "m_lt") | fail "m_ne"
  k_with "m_lt" => first | assumption | omega | (refine' lt_mem ?q9ma ?q9mb; (case q9mb => assumption); (case q9ma => first | assumption | exact tb_ltOf (by assumption))) | (solve_by_elim (config := { maxDepth := 3 })) | fail "m_lt"
  k_with "m_below" => first | assumption | (refine tb_ltOf ?_; (try simp only [AllLt, and_true]); first | assumption | omega) | fail "m_below"
  k_with "m_grow" => first | exact Grow.refl _ | assumption | (refine' Grow.cons ?q9ml ?q9mg; (case q9ml => walk_at "m_below"); (case q9mg => walk_at "m_grow")) | (refine' Grow.trans ?q9mg ?q9mk; (case q9mk => assumption); (case q9mg => walk_at "m_grow")) | (refine' Put.grow ?q9mp ?q9mg ?q9ml; (case q9mp => with_reducible assumption); (case q9ml => walk_at "m_below"); (case q9mg => walk_at "m_grow")) | fail "m_grow"
  k_with "m_news" => first | k_asm | (refine' cb_drop ?q9mN ?q9mS; (case q9mN => assumption); (case q9mS => (intro _ _; walk_at "m_mem"))) | fail "m_news"
  k_with "m_enter" => (refine' code_def ?q9k1 ?q9k2 ?q9k3 ?q9k4 ?q9k5 ?q9kA ?q9kF ?q9kK ?q9k6 ?q9k7 ?q9k8 ?q9k9 ?q9kB ?_ ?q9c2 ?q9c3 ?q9c4 ?q9c5; (case q9kA => exact rfl); (case q9kF => exact rfl); (case q9kK => first | exact rfl | assumption); (case q9k1 => k_asm); (case q9k2 => k_asm); (case q9k3 => k_asm); (case q9k4 => k_asm); (case q9k5 => k_asm); (case q9k6 => k_is); (case q9k7 => k_is); (case q9k8 => ktr_room); (case q9k9 => exact BindsTo.of_eq rfl); (case q9c5 => decide); (case q9kB => exact locs rfl); (case q9c2 => exact rfl); (case q9c3 => exact rfl); (case q9c4 => exact rfl); k_whole; walk_at "m_z0")
  k_with "call ref" => (k_here; k_dflt (first
  | (refine' call_cls ?q9k1 ?q9k2 ?q9k3 ?q9k4 ?q9k5 ?q9k6 ?_; (case q9k1 => k_asm); (case q9k2 => k_asm); (case q9k3 => k_asm); (case q9k4 => k_is); (case q9k5 => k_is); (case q9k6 => k_is); k_whole; walk_at "m_z1")
  | (refine wpAny_call ?_; walk_at "m_enter")))
  k_with "m_start" => (with_reducible rename Frag.In _ _ => hK9; revert hK9; k_fill; intro hK9)
  k_with "call builtin:len" => (k_here; (with_reducible show wpAny _ _ (call (Value.builtin "len") [Value.ref _]) _ _ _); k_dflt (refine' stk_len ?q9k1 ?q9k2 ?q9k3 ?q9k4 ?_; (case q9k1 => k_asm); (case q9k2 => walk_at "m_mem"); (case q9k3 => assumption); (case q9k4 => omega); k_whole))
  k_with "subscriptTail Name Slice ref ref" => (k_here; (with_reducible show wpAny _ _ (subscriptTail _ (PySem.Expr.Slice (some _) none none _) (Value.ref _) (Value.ref _)) _ _ _); k_dflt (refine' stk_from ?q9k1 ?q9k2 ?q9k3 ?q9k4 ?q9k5 ?q9k6 ?q9k7 ?_ ?q9k8; (case q9k1 => k_asm); (case q9k2 => k_asm); (case q9k3 => walk_at "m_mem"); (case q9k4 => assumption); (case q9k5 => omega); (case q9k6 => omega); (case q9k7 => omega); (case q9k8 => with_unfolding_all rfl)); intro _ _ _ _ _ _ _ _ _ _; (try dsimp only))
  k_with "subscriptTail Name Slice ref ref" => (k_here; (with_reducible show wpAny _ _ (subscriptTail _ (PySem.Expr.Slice none (some _) none _) (Value.ref _) (Value.ref _)) _ _ _); k_dflt (refine' stk_upto ?q9k1 ?q9k2 ?q9k3 ?q9k4 ?q9k5 ?q9k6 ?q9k7 ?_ ?q9k8; (case q9k1 => k_asm); (case q9k2 => k_asm); (case q9k3 => walk_at "m_mem"); (case q9k4 => assumption); (case q9k5 => omega); (case q9k6 => omega); (case q9k7 => omega); (case q9k8 => with_unfolding_all rfl)); intro _ _ _ _ _ _ _ _ _ _; (try dsimp only))
  k_with "binaryOp Add ref ref" => (k_here; k_dflt (refine' stk_add ?q9k1 ?q9k2 ?q9k3 ?q9k4 ?q9k5 ?q9k6 ?q9k7 ?_; (case q9k1 => k_asm); (case q9k2 => k_asm); (case q9k3 => walk_at "m_mem"); (case q9k4 => assumption); (case q9k5 => walk_at "m_mem"); (case q9k6 => assumption); (case q9k7 => omega)); intro _ _ _ _ _ _ _ _ _ _; (try dsimp only))
  k_with "exec Raise some none" => (k_here; k_dflt (refine raise_bad (by rfl) ?_); k_whole)
  k_with "m_unit" => first | assumption | (refine' UnitIn.mono ?q9ma ?q9mb; (case q9mb => assumption); (case q9ma => (refine Grow.mem ?_; walk_at "m_grow"))) | fail "m_unit"
  k_with "m_code" => first | assumption | (refine' All2.mono ?q9mb ?q9ma; (case q9mb => assumption); (case q9ma => (refine fun _ _ q => InsIn.mono ?_ q; refine Grow.mem ?_; walk_at "m_grow"))) | fail "m_code"
  k_with "call ref" => (k_here; (with_reducible show wpAny _ _ (call (Value.ref 276) _) _ _ _); k_dflt (refine' c_stacks_of ?q9k1 ?q9k2 ?q9k3 ?q9k4 ?q9k5 ?q9kK ?q9kd ?q9ku ?q9kU ?q9kC ?q9kA ?q9kf ?q9kG ?_ ?_; (case q9k1 => k_asm); (case q9k2 => k_asm); (case q9k3 => k_asm); (case q9k4 => k_asm); (case q9k5 => k_asm); (case q9kK => first | exact rfl | assumption); (case q9kd => ktr_room); (case q9ku => ktr_units); (case q9kU => walk_at "m_unit"); (case q9kC => walk_at "m_mem"); (case q9kA => walk_at "m_code"); (case q9kf => omega); (case q9kG => assumption); ) <;> (intros; (try dsimp only); (try k_fold)))
  k_with "exec For" => (k_here; walk_at "m_z2")
  k_with "exec For Name Attribute cons nil" => (k_here; walk_at "m_z2")
  k_with "exec For Name Name cons nil" => (k_here; walk_at "m_z2")
  k_with "exec For Tuple Call" => (k_here; walk_at "m_z2")
  k_with "exec For Tuple Name cons nil" => (k_here; walk_at "m_z2")
  k_with "exec For Name Call cons nil" => (k_here; walk_at "m_z2")
  k_with "last exec For" => (k_here; walk_at "m_z2")
  k_with "exec For Tuple Call cons nil" => (k_here; walk_at "m_z2")
  k_with "pyIter ref" => (k_here; (with_reducible show wpAny _ _ (pyIter (Value.ref _)) (fun it s₂ => TurnsAt _ _ _ _ _ _ _ _ _ it s₂) _ _); (with_unfolding_all refine' iter_listNil ?q9k1 ?q9k2 ?q9k3 ?q9k4 ?_; (case q9k1 => rfl); (case q9k2 => k_asm); (case q9k3 => k_asm); (case q9k4 => walk_at "m_mem"); k_whole); intro _ _ _ _; (try dsimp only); (try k_fold))
  k_with "call type:enumerate" => (k_here; (with_reducible show wpAny _ _ (call (Value.type _) [Value.ref _]) (fun xv s₁ => wpAny _ _ (pyIter xv) (fun it s₂ => TurnsAt _ _ _ _ _ _ _ _ _ it s₂) _ s₁) _ _); (with_unfolding_all refine' enum_nil ?q9k1 ?q9k2 ?q9k3 ?q9k4 ?_; (case q9k1 => rfl); (case q9k2 => k_asm); (case q9k3 => k_asm); (case q9k4 => walk_at "m_mem"); k_whole); intro _ _ _ _; (try dsimp only); (try k_fold))
  k_with "compareOp NotEq ref ref" => (k_here; (with_unfolding_all refine' ne_nils ?q9k1 ?q9k2 ?q9k3 ?q9k4 ?_; (case q9k1 => k_asm); (case q9k2 => walk_at "m_mem"); (case q9k3 => walk_at "m_mem"); (case q9k4 => ktr_units); k_whole))
  k_with "TurnPost" => (dsimp only [TurnPost])
  k_with "getMethod ref" => (k_here; (with_reducible show wpAny _ _ (getMethod (Value.ref _) (Str.ofString "values") _) _ _ _); k_dflt (refine' kdl_method (knd := PySem.intKind _ _) PySem.F.slot_dict_values PySem.F.type_dict_values ?q9k1 ?q9k2 ?q9k3 ?_; (case q9k1 => k_asm); (case q9k3 => assumption); (case q9k2 => walk_at "m_mem")))
  k_with "call builtin:dict.values" => (k_here; k_dflt (refine' kdl_view_values (knd := PySem.intKind _ _) ?q9k1 ?q9k2 ?q9k3 ?q9k4 ?q9k5 ?_; (case q9k1 => k_asm); (case q9k2 => k_asm); (case q9k4 => assumption); (case q9k3 => walk_at "m_mem"); (case q9k5 => assumption); k_whole); intro _ _ _ _ _)
  trivial
set_option maxRecDepth 100000 in
set_option maxHeartbeats 8000000 in
theorem c_deepest {w : World} {mean : ExcName → Option Value} {mg mb : Str → Option Value} {dp un : Nat} {gd : Option (List Code)} {cn : Str} {cs : Scope} {a : Addr} {ccd : Value} {cl : List (Str × Addr)} {outer : List Env} {A₀ : Around} {base h₀ : Heap} {L : Addr} {m : Str → Option Value} {news : List (Addr × Obj)} {s : Shared} {Q E : Value → Shared → Prop} {u d C : Addr} {k : Nat → Tok} {P cs' us hs ls cp pp : Addr} {vs : List Value} {kc : Nat} {code : List Ins}
    (hB : Below A₀ base outer h₀) (hF : Fr h₀ L s.heap m) (hK : (hd.heap_1 w.params).In h₀) (hN : News h₀ L s.heap news) (hT : Top seenText (looseW seenText [Str.ofString "OPERATIONS", Str.ofString "LAST_OPS", Str.ofString "QUIET_OPS"]) mean mg mb h₀) (hkd : cs.kind = .function) (hdp : dp + 20 < recursionLimit) (hun : un + 300 < cLine) (hU : UnitIn w news u d k P C cs' us hs ls cp pp) (hC : (C, listOf vs.toArray kc) ∈ news) (hA : All2 (InsIn news) vs code) (hfit : code.length < 2 ^ 62) (hG : GoodCode code) (hgood : ¬ Bad code)
    (hret : ∀ fs t h' tk' n', Fr h₀ L h' m → News h₀ L h' n' → Grow news n' → Final code fs → Q (.int ((fs.map (·.2)).foldl max 0 : Nat) t) { s with heap := h', toks := tk' }) :
    wpAny (model Challenge.rw_sm0039_01.row.prog w) (ktrTop dp un gd cn cs L a ccd cl outer) (call (.ref 304) [.ref u]) Q E s := by
  have hsz := hG.size
  have hps := hG.pos
  have hKd := kdMark
  revert hK; k_fill; intro hK
  refine wpAny_call ?_
  k_dflt (refine' code_def (binds := [(Str.ofString "unit", .ref u)]) ?k1 ?k2 ?k3 ?k4 ?k5 ?kA ?kF ?kK ?k6 ?k7 ?k8 ?k9 ?kB ?_ ?c2 ?c3 ?c4 ?c5; (case kA => exact rfl); (case kF => exact rfl); (case kK => first | exact rfl | assumption); (case k1 => k_asm); (case k2 => k_asm); (case k3 => k_asm); (case k4 => k_asm); (case k5 => k_asm); (case k6 => k_is); (case k7 => k_is); (case k8 => ktr_room); (case k9 => exact BindsTo.of_eq rfl); (case c5 => decide); (case kB => exact locs rfl); (case c2 => exact rfl); (case c3 => exact rfl); (case c4 => exact rfl); k_whole; intro g' L' h' FG' F' N' B' X' T'; (try dsimp only); (try k_lift B'); (try k_fold))
  k_steps
  all_goals (first | exact absurd (by assumption) hgood | skip)
  with_reducible rename All2 (FsIn _) _ _ => hA9
  with_reducible rename Final code _ => hf9
  with_reducible rename Obj.IsDictOf _ _ _ => hd9
  with_reducible rename Grow news _ => hg9
  with_reducible rename ((_, _) ∈ _) => hm9
  with_reducible rename Fr g' L' _ _ => F9
  with_reducible rename News g' L' _ _ => N9
  rename_i fd od kvs fs hX tkX nX F8 N8 lo9 D9 hY l9
  have hlen := hA9.length
  have hfit2 : ∀ q ∈ fs, q.2 ≤ 1000000 := fun q hq => by
    have := hG.reach (hf9.reach q hq)
    omega
  refine iter_vals (fun j m n => n = (D9, { cls := .type "dict_values", data := .fields #[.ref fd] }) :: nX ∧ ∃ t x, x = (hiest fs j : Int) ∧ m (Str.ofString "found") = some (.int x t)) (by rfl) F9 N9 (List.Mem.head _) (.tail _ hm9) hd9 ⟨rfl, _, _, rfl, by rfl⟩ ?_ ?_
  · clear N9 F9
    rintro I j v m₂ n₂ h₂ tk₂ oI hv ⟨rfl, t₂, x₂, rfl, mf⟩ hk hI hIc F₂ N₂
    obtain ⟨q, hq, hs⟩ := fs_vals hA9 hv
    have hq2 := hfit2 q (List.mem_of_getElem? hq)
    have hnx := hiest_next hq
    obtain ⟨r₂, rfl⟩ : ∃ r, m₂ = fun y => if y = Str.ofString "found" then some (.int (hiest fs j : Int) t₂) else r y := ⟨m₂, map_one mf⟩
    clear mf
    have T₂ : TupSub nX ((I, oI) :: (D9, { cls := .type "dict_values", data := .fields #[.ref fd] }) :: nX) := (TupSub.tail).trans .tail
    have hs₃ := T₂.stk hs
    have hI₃ : (I, oI) ∈ ((I, oI) :: (D9, { cls := .type "dict_values", data := .fields #[.ref fd] }) :: nX) := .head _
    cases hs₃ with
    | @mk y₃ ws₃ ky₃ _ hy₃ hy₄ =>
      k_steps
      refine ⟨_, _, _, _, rfl, by k_asm, by k_asm, hI, hk, rfl, _, _, ?_, by rfl⟩
      rw [hnx]
      split <;> omega
  · clear N9 F9
    rintro h₂ tk₂ m₂ n₂ ⟨rfl, t₂, x₂, rfl, mf⟩ hk F₂ N₂
    obtain ⟨r₂, rfl⟩ : ∃ r, m₂ = fun y => if y = Str.ofString "found" then some (.int (hiest fs kvs.length : Int) t₂) else r y := ⟨m₂, map_one mf⟩
    k_steps
    have e : hiest fs kvs.length = (fs.map (·.2)).foldl max 0 := by unfold hiest; rw [hlen, List.take_length]
    rw [e]
    exact hret _ _ _ _ _ (by k_asm) (by k_asm) (by walk_at "m_grow") hf9
end
section
set_option maxRecDepth 100000
theorem PinT.nat {n : List (Addr × Obj)} {x : Addr} {p h : Int} {t t' : Tok} {k : Nat} (hm : (x, tupO [.int p t, .int h t'] k) ∈ n) (e1 : 0 ≤ p) (e2 : 0 ≤ h) : PinT n x (p.toNat, h.toNat) :=
  PinT.cast hm (by omega) (by omega)
end
section
theorem words_W7_14 : True := by
  k_with_none
  k_with "m_mem" => first | assumption | exact List.Mem.head _ | (refine List.mem_cons_of_mem _ ?_; walk_at "m_mem") | (refine List.mem_append_left _ ?_; walk_at "m_mem") | (refine List.mem_append_right _ ?_; walk_at "m_mem") | exact Put.mem (by assumption) | (refine' Grow.mem ?q9mg _ ?q9mh; (case q9mg => with_reducible assumption); (case q9mh => walk_at "m_mem")) | (refine' Put.keep ?q9mp ?q9mh ?q9mn; (case q9mp => with_reducible assumption); (case q9mh => walk_at "m_mem"); (case q9mn => walk_at "m_ne")) | (refine' Grow.mem ?q9mg _ ?q9mh; (case q9mh => with_reducible assumption); (case q9mg => walk_at "m_grow")) | fail "m_mem"
  k_with "m_ne" => first | assumption | exact Ne.symm (by assumption) | (refine Nat.ne_of_lt ?_; walk_at "m_lt") | (refine Nat.ne_of_gt ?_; walk_at "m_lt") | fail "m_ne"
  k_with "m_lt" => first | assumption | omega | (refine' lt_mem ?q9ma ?q9mb; (case q9mb => assumption); (case q9ma => first | assumption | exact tb_ltOf (by assumption))) | (solve_by_elim (config := { maxDepth := 3 })) | fail "m_lt"
  k_with "m_below" => first | assumption | (refine tb_ltOf ?_; (try simp only [AllLt, and_true]); first | assumption | omega) | fail "m_below"
  k_with "m_grow" => first | exact Grow.refl _ | assumption | (refine' Grow.cons ?q9ml ?q9mg; (case q9ml => walk_at "m_below"); (case q9mg => walk_at "m_grow")) | (refine' Grow.trans ?q9mg ?q9mk; (case q9mk => assumption); (case q9mg => walk_at "m_grow")) | (refine' Put.grow ?q9mp ?q9mg ?q9ml; (case q9mp => with_reducible assumption); (case q9ml => walk_at "m_below"); (case q9mg => walk_at "m_grow")) | fail "m_grow"
  k_with "m_news" => first | k_asm | (refine' cb_drop ?q9mN ?q9mS; (case q9mN => assumption); (case q9mS => (intro _ _; walk_at "m_mem"))) | fail "m_news"
  k_with "m_enter" => (refine' code_def ?q9k1 ?q9k2 ?q9k3 ?q9k4 ?q9k5 ?q9kA ?q9kF ?q9kK ?q9k6 ?q9k7 ?q9k8 ?q9k9 ?q9kB ?_ ?q9c2 ?q9c3 ?q9c4 ?q9c5; (case q9kA => exact rfl); (case q9kF => exact rfl); (case q9kK => first | exact rfl | assumption); (case q9k1 => k_asm); (case q9k2 => k_asm); (case q9k3 => k_asm); (case q9k4 => k_asm); (case q9k5 => k_asm); (case q9k6 => k_is); (case q9k7 => k_is); (case q9k8 => ktr_room); (case q9k9 => exact BindsTo.of_eq rfl); (case q9c5 => decide); (case q9kB => exact locs rfl); (case q9c2 => exact rfl); (case q9c3 => exact rfl); (case q9c4 => exact rfl); k_whole; walk_at "m_z0")
  k_with "call ref" => (k_here; k_dflt (first
  | (refine' call_cls ?q9k1 ?q9k2 ?q9k3 ?q9k4 ?q9k5 ?q9k6 ?_; (case q9k1 => k_asm); (case q9k2 => k_asm); (case q9k3 => k_asm); (case q9k4 => k_is); (case q9k5 => k_is); (case q9k6 => k_is); k_whole; walk_at "m_z1")
  | (refine wpAny_call ?_; walk_at "m_enter")))
  k_with "m_start" => (with_reducible rename Frag.In _ _ => hK9; revert hK9; k_fill; intro hK9)
  k_with "eval Dict" => (k_here; k_dflt (refine' kdn_eval (knd := PySem.intKind _ _) ?q9F ?q9N ?q9b ?q9a ?q9l ?q9e ?q9n ?_; (case q9F => k_asm); (case q9N => first | k_asm | exact News.nil); (case q9b => exact Top.nolimit (by k_asm)); (case q9a => rfl); (case q9l => rfl); (case q9e => exact List.cons_ne_nil _ _); (case q9n => exact Nat.le_of_ble_eq_true rfl)); walk_at "m_z5")
  trivial
set_option maxRecDepth 100000 in
set_option maxHeartbeats 8000000 in
theorem c_law_grown {w : World} {mean : ExcName → Option Value} {mg mb : Str → Option Value} {dp un : Nat} {gd : Option (List Code)} {cn : Str} {cs : Scope} {a : Addr} {ccd : Value} {cl : List (Str × Addr)} {outer : List Env} {A₀ : Around} {base h₀ : Heap} {L : Addr} {m : Str → Option Value} {news : List (Addr × Obj)} {s : Shared} {Q E : Value → Shared → Prop} 
    (hB : Below A₀ base outer h₀) (hF : Fr h₀ L s.heap m) (hK : (hd.heap_1 w.params).In h₀) (hN : News h₀ L s.heap news) (hT : Top seenText (looseW seenText [Str.ofString "OPERATIONS", Str.ofString "LAST_OPS", Str.ofString "QUIET_OPS"]) mean mg mb h₀) (hkd : cs.kind = .function) (hdp : dp + 2 < recursionLimit) (hun : un + 40 < cLine) 
    (hret : ∀ fd o h' tk' (t0 t1 t2 t3 t4 t5 t6 t7 : Tok), Fr h₀ L h' m → News h₀ L h' ((fd, o) :: news) → (∀ p ∈ news, p.1 < fd) → o.IsDictOf (PySem.intKind Challenge.rw_sm0039_01.row.prog w) [(5, .int 1 t0), (7, .int 1 t1), (53, .int 0 t2), (9, .int 0 t3), (30, .int (-1) t4), (6, .int (-1) t5), (58, .int 0 t6), (59, .int (-1) t7)] → Q (.ref fd) { s with heap := h', toks := tk' }) :
    wpAny (model Challenge.rw_sm0039_01.row.prog w) (ktrTop dp un gd cn cs L a ccd cl outer) (call (.ref 311) []) Q E s := by
  have hKd := kdMark
  revert hK; k_fill; intro hK
  refine wpAny_call ?_
  k_dflt (refine' code_def (binds := []) ?k1 ?k2 ?k3 ?k4 ?k5 ?kA ?kF ?kK ?k6 ?k7 ?k8 ?k9 ?kB ?_ ?c2 ?c3 ?c4 ?c5; (case kA => exact rfl); (case kF => exact rfl); (case kK => first | exact rfl | assumption); (case k1 => k_asm); (case k2 => k_asm); (case k3 => k_asm); (case k4 => k_asm); (case k5 => k_asm); (case k6 => k_is); (case k7 => k_is); (case k8 => ktr_room); (case k9 => exact BindsTo.of_eq rfl); (case c5 => decide); (case kB => exact locs rfl); (case c2 => exact rfl); (case c3 => exact rfl); (case c4 => exact rfl); k_whole; intro g' L' h' FG' F' N' B' X' T'; (try dsimp only); (try k_lift B'); (try k_fold))
  k_steps
  exact hret _ _ _ _ _ _ _ _ _ _ _ _ (by k_asm) (by k_asm) (by assumption) (by assumption)
end
local macro_rules | `(tactic| walk_at "m_z6") => `(tactic| (intro _ _ _ _ _ _ _ _ _ X9; (cases X9); (try dsimp only)))
local macro_rules | `(tactic| walk_at "m_z7") => `(tactic| (intro x9 t9 n9 M9))
local macro_rules | `(tactic| walk_at "m_z8") => `(tactic| (intro _ _ _ _ _ _ _ _ N' _; (try dsimp only at N')))
section
theorem words_V1 : True := by
  k_with_none
  k_with "m_mem" => first | assumption | exact List.Mem.head _ | (refine List.mem_cons_of_mem _ ?_; walk_at "m_mem") | (refine List.mem_append_left _ ?_; walk_at "m_mem") | (refine List.mem_append_right _ ?_; walk_at "m_mem") | exact Put.mem (by assumption) | (refine' Grow.mem ?q9mg _ ?q9mh; (case q9mg => with_reducible assumption); (case q9mh => walk_at "m_mem")) | (refine' Put.keep ?q9mp ?q9mh ?q9mn; (case q9mp => with_reducible assumption); (case q9mh => walk_at "m_mem"); (case q9mn => walk_at "m_ne")) | (refine' Grow.mem ?q9mg _ ?q9mh; (case q9mh => with_reducible assumption); (case q9mg => walk_at "m_grow")) | fail "m_mem"
  k_with "m_ne" => first | assumption | exact Ne.symm (by assumption) | (refine Nat.ne_of_lt ?_; walk_at "m_lt") | (refine Nat.ne_of_gt ?_; walk_at "m_lt") | fail "m_ne"
  k_with "m_all" => first | assumption | exact tb_ltOf (And.right (by with_reducible assumption)) | exact tb_ltOf (And.right (And.right (by with_reducible assumption))) | exact tb_ltOf (And.right (And.right (And.right (by with_reducible assumption)))) | exact tb_ltOf (And.right (And.right (And.right (And.right (by with_reducible assumption))))) | exact tb_ltOf (And.right (And.right (And.right (And.right (And.right (by with_reducible assumption)))))) | fail "m_all"
  k_with "m_lt" => first | assumption | omega | (refine' lt_mem ?q9ma ?q9mb; (case q9mb => assumption); (case q9ma => first | assumption | exact tb_ltOf (by assumption))) | (refine' lt_mem ?q9ma ?q9mb; (case q9ma => walk_at "m_all"); (case q9mb => walk_at "m_mem")) | (solve_by_elim (config := { maxDepth := 3 })) | fail "m_lt"
  k_with "m_below" => first | assumption | (refine tb_ltOf ?_; (try simp only [AllLt, and_true]); first | assumption | omega) | fail "m_below"
  k_with "m_grow" => first | exact Grow.refl _ | assumption | (refine' Grow.cons ?q9ml ?q9mg; (case q9ml => walk_at "m_below"); (case q9mg => walk_at "m_grow")) | (refine' Grow.trans ?q9mg ?q9mk; (case q9mk => assumption); (case q9mg => walk_at "m_grow")) | (refine' Put.grow ?q9mp ?q9mg ?q9ml; (case q9mp => with_reducible assumption); (case q9ml => walk_at "m_below"); (case q9mg => walk_at "m_grow")) | fail "m_grow"
  k_with "m_news" => first | k_asm | (refine' cb_drop ?q9mN ?q9mS; (case q9mN => assumption); (case q9mS => (intro _ _; walk_at "m_mem"))) | fail "m_news"
  k_with "m_enter" => (refine' code_def ?q9k1 ?q9k2 ?q9k3 ?q9k4 ?q9k5 ?q9kA ?q9kF ?q9kK ?q9k6 ?q9k7 ?q9k8 ?q9k9 ?q9kB ?_ ?q9c2 ?q9c3 ?q9c4 ?q9c5; (case q9kA => exact rfl); (case q9kF => exact rfl); (case q9kK => first | exact rfl | assumption); (case q9k1 => k_asm); (case q9k2 => k_asm); (case q9k3 => k_asm); (case q9k4 => k_asm); (case q9k5 => k_asm); (case q9k6 => k_is); (case q9k7 => k_is); (case q9k8 => ktr_room); (case q9k9 => exact BindsTo.of_eq rfl); (case q9c5 => decide); (case q9kB => exact locs rfl); (case q9c2 => exact rfl); (case q9c3 => exact rfl); (case q9c4 => exact rfl); k_whole; walk_at "m_z0")
  k_with "call ref" => (k_here; k_dflt (first
  | (refine' call_cls ?q9k1 ?q9k2 ?q9k3 ?q9k4 ?q9k5 ?q9k6 ?_; (case q9k1 => k_asm); (case q9k2 => k_asm); (case q9k3 => k_asm); (case q9k4 => k_is); (case q9k5 => k_is); (case q9k6 => k_is); k_whole; walk_at "m_z1")
  | (refine wpAny_call ?_; walk_at "m_enter")))
  k_with "m_start" => (with_reducible rename Frag.In _ _ => hK9; revert hK9; k_fill; intro hK9)
  k_with "subscriptTail Name" => (k_here; (with_reducible show wpAny _ _ (subscriptTail _ _ (Value.ref _) (Value.int (Nat.cast (R := Int) _) _)) _ _ _); refine Halt.out ?_)
  k_with "subscriptTail" => (k_here; (with_reducible show wpAny _ _ (subscriptTail _ _ (Value.ref _) (Value.int (Nat.cast (R := Int) _) _)) _ _ _); refine Halt.out ?_)
  k_with "call builtin:len" => (k_here; (with_reducible show wpAny _ _ (call (Value.builtin "len") [Value.ref _]) _ _ _); k_dflt (refine' all2_len ?q9k1 ?q9k2 ?q9k3 ?q9k4 ?_; (case q9k1 => k_asm); (case q9k2 => assumption); (case q9k3 => assumption); (case q9k4 => assumption); k_whole))
  k_with "compareOp Eq int int" => (k_here; (with_reducible show wpAny _ _ (compareOp CmpOp.Eq (Value.int (Ins.op _) _) (Value.int _ _)) _ _ _); k_dflt (refine op_eq_no (by omega) ?_); (try dsimp only))
  k_with "compareOp NotEq int int" => (k_here; (with_reducible show wpAny _ _ (compareOp CmpOp.NotEq (Value.int (Ins.op _) _) (Value.int _ _)) _ _ _); k_dflt (refine op_ne_yes (by omega) ?_); (try dsimp only))
  k_with "exec While" => (k_here; refine Rest.out ?_)
  k_with "exec While Compare" => (k_here; refine Rest.out ?_)
  k_with "exec While BoolOp" => (k_here; refine Rest.out ?_)
  k_with "last exec While" => (k_here; refine Rest.out ?_)
  k_with "WhEnd" => (dsimp only [WhEnd])
  k_with "eval Dict" => (k_here; k_dflt (refine' kdn_int ?q9q ?q9F ?q9N ?q9b ?q9a ?q9l ?q9e ?q9n ?_; (case q9q => rfl); (case q9F => k_asm); (case q9N => first | k_asm | exact News.nil); (case q9b => exact Top.nolimit (by k_asm)); (case q9a => rfl); (case q9l => rfl); (case q9e => exact List.cons_ne_nil _ _); (case q9n => exact Nat.le_of_ble_eq_true rfl)); walk_at "m_z5")
  k_with "WhlIf" => (first | (refine WhlIf.yes (by with_unfolding_all rfl) ?_) | (refine WhlIf.no (by with_unfolding_all rfl) ?_) | (refine WhlIf.yes (by simp) ?_) | (refine WhlIf.yes (decide_eq_true (by simp only [List.length_append, List.length_cons, List.length_nil]; omega)) ?_) | fail "WhlIf")
  k_with "m_ks" => first | assumption | (refine' TupSub.ks ?q9ma ?q9mb; (case q9mb => assumption); (case q9ma => walk_at "m_tup")) | fail "m_ks"
  k_with "m_ws" => first | assumption | (refine' TupSub.ws ?q9ma ?q9mb; (case q9mb => assumption); (case q9ma => walk_at "m_tup")) | exact All2.nil | (refine' All2.cons (WIn.mk (PinT.nat ?q9mc ?q9md ?q9me)) ?q9mf; (case q9mc => walk_at "m_mem"); (case q9md => omega); (case q9me => omega); (case q9mf => walk_at "m_ws")) | fail "m_ws"
  k_with "m_tup" => first | assumption | exact TupSub.refl _ | (refine' TupSub.trans ?q9ma TupSub.tail; (case q9ma => walk_at "m_tup")) | (refine' TupSub.trans ?q9ma ?q9mb; (case q9mb => with_reducible assumption); (case q9ma => walk_at "m_tup")) | (refine' TupSub.trans ?q9ma (TupSub.grow ?q9mb); (case q9mb => with_reducible assumption); (case q9ma => walk_at "m_tup")) | fail "m_tup"
  k_with "m_pin" => first | assumption | (refine' PinT.mk ?q9ma; (case q9ma => walk_at "m_mem")) | fail "m_pin"
  k_with "compareOp NotEq ref ref" => (k_here; k_dflt (first
  | (refine' ne_nil1 ?q9k1 ?q9k2 ?q9k3 ?q9k4 ?q9k5 ?_; (case q9k1 => k_asm); (case q9k2 => walk_at "m_mem"); (case q9k3 => walk_at "m_ws"); (case q9k4 => walk_at "m_mem"); (case q9k5 => ktr_units); k_whole)
  | (refine' ne_nil0 ?q9k1 ?q9k2 ?q9k3 ?q9k4 ?q9k5 ?_; (case q9k1 => k_asm); (case q9k2 => walk_at "m_mem"); (case q9k3 => walk_at "m_ws"); (case q9k4 => walk_at "m_mem"); (case q9k5 => ktr_units); k_whole)))
  k_with "call builtin:list.pop" => (k_here; k_dflt (refine' pop_w ?q9k1 ?q9k2 ?q9k3 ?q9k4 ?q9k5 ?_; (case q9k1 => k_asm); (case q9k2 => k_asm); (case q9k3 => walk_at "m_mem"); (case q9k4 => walk_at "m_ws"); (case q9k5 => omega); k_whole); walk_at "m_z6")
  k_with "compareOp In ref ref" => walk_at "compareOp In"
  k_with "compareOp In" => (k_here; k_dflt (refine' h_in ?q9k1 ?q9k2 ?q9k3 ?q9k4 ?q9k5 ?q9k6 ?q9k7 ?_ ?_; (case q9k1 => k_asm); (case q9k4 => assumption); (case q9k2 => walk_at "m_pin"); (case q9k3 => walk_at "m_mem"); (case q9k5 => assumption); (case q9k6 => walk_at "m_ks"); (case q9k7 => ktr_units)) <;> (intros; (try dsimp only)))
  k_with "setItem ref ref" => (k_here; k_dflt (refine' h_set ?q9k1 ?q9k2 ?q9k3 ?q9k4 ?q9k5 ?q9k6 ?q9k7 ?q9k8 ?q9k9 ?_; (case q9k1 => k_asm); (case q9k2 => k_asm); (case q9k5 => assumption); (case q9k3 => walk_at "m_pin"); (case q9k4 => walk_at "m_mem"); (case q9k6 => walk_at "m_ks"); (case q9k7 => assumption); (case q9k8 => omega); (case q9k9 => ktr_units); k_whole); intro _ _ _ _ _ _ _ _ _ _ _; (try dsimp only))
  k_with "call builtin:len" => (k_here; (with_reducible show wpAny _ _ (call (Value.builtin "len") [Value.ref _]) _ _ _); k_dflt (refine' all2_len ?q9k1 ?q9k2 ?q9k3 ?q9k4 ?_; (case q9k1 => k_asm); (case q9k2 => walk_at "m_mem"); (case q9k3 => assumption); (case q9k4 => assumption); k_whole))
  k_with "subscriptTail Name" => (k_here; (with_reducible show wpAny _ _ (subscriptTail _ _ (Value.ref _) (Value.int (Nat.cast (R := Int) _) _)) _ _ _); refine Halt.out ?_)
  k_with "subscriptTail" => (k_here; (with_reducible show wpAny _ _ (subscriptTail _ _ (Value.ref _) (Value.int (Nat.cast (R := Int) _) _)) _ _ _); refine Halt.out ?_)
  k_with "eval Dict" => (k_here; k_dflt (refine' kdn_eval (knd := PySem.intKind _ _) ?q9F ?q9N ?q9b ?q9a ?q9l ?q9e ?q9n ?_; (case q9F => k_asm); (case q9N => first | k_asm | exact News.nil); (case q9b => exact Top.nolimit (by k_asm)); (case q9a => rfl); (case q9l => rfl); (case q9e => exact List.cons_ne_nil _ _); (case q9n => exact Nat.le_of_ble_eq_true rfl)); walk_at "m_z5")
  k_with "KdnMade" => (k_here; k_dflt (refine' need_made ?q9F ?q9N ?q9U ?q9d ?_; (case q9F => k_asm); (case q9N => k_asm); (case q9U => k_updF); (case q9d => k_asm)); walk_at "m_z8")
  k_with "call builtin:dict.get" => (k_here; (with_reducible show wpAny _ _ (call (Value.builtin "dict.get") [Value.ref _, Value.int (Ins.op _) _, _]) _ _ _); k_dflt (refine' need_get ?q9k1 ?q9k2 ?q9k3 ?q9k4 ?_; (case q9k1 => k_asm); (case q9k3 => assumption); (case q9k2 => walk_at "m_mem"); (case q9k4 => assumption); k_whole); intro _ _; (try dsimp only))
  k_with "getItem ref int" => (k_here; (with_reducible show wpAny _ _ (getItem (Value.ref _) (Value.int (Ins.op _) _)) _ _ _); k_dflt (refine' grown_item2 ?q9k1 ?q9k2 ?q9k3 ?q9k4 ?q9k5 ?_; (case q9k1 => k_asm); (case q9k3 => assumption); (case q9k2 => walk_at "m_mem"); (case q9k4 => assumption); (case q9k5 => assumption); k_whole); intro _ _; (try dsimp only))
  k_with "eval IfExp" => (k_here; (with_reducible rename IfMark => hgo9); clear hgo9; refine Halt.out ?_)
  k_with "call builtin:list.extend" => (k_here; refine Halt.out ?_)
  k_with "truthy bool" => (k_here; (with_reducible show wpAny _ _ (truthy (Value.bool (List.any _ _))) _ _ _); (with_reducible rename AnyMark => hgo9); clear hgo9; refine Halt.out ?_)
  k_with "m_unit" => first | assumption | (refine' UnitIn.mono ?q9ma ?q9mb; (case q9mb => assumption); (case q9ma => (refine Grow.mem ?_; walk_at "m_grow"))) | fail "m_unit"
  k_with "m_code" => first | assumption | (refine' All2.mono ?q9mb ?q9ma; (case q9mb => assumption); (case q9ma => (refine fun _ _ q => InsIn.mono ?_ q; refine Grow.mem ?_; walk_at "m_grow"))) | fail "m_code"
  k_with "call ref" => (k_here; (with_reducible show wpAny _ _ (call (Value.ref 311) _) _ _ _); k_dflt (refine' c_law_grown ?q9k1 ?q9k2 ?q9k3 ?q9k4 ?q9k5 ?q9kK ?q9kd ?q9ku  ?_; (case q9k1 => k_asm); (case q9k2 => k_asm); (case q9k3 => k_asm); (case q9k4 => k_asm); (case q9k5 => k_asm); (case q9kK => first | exact rfl | assumption); (case q9kd => ktr_room); (case q9ku => ktr_units);  k_whole); intro _ _ _ _ _ _ _ _ _ _ _ _ _ _ _ _; (try dsimp only); (try k_fold))
  trivial
set_option maxRecDepth 100000 in
set_option maxHeartbeats 8000000 in
theorem c_heights {w : World} {mean : ExcName → Option Value} {mg mb : Str → Option Value} {dp un : Nat} {gd : Option (List Code)} {cn : Str} {cs : Scope} {a : Addr} {ccd : Value} {cl : List (Str × Addr)} {outer : List Env} {A₀ : Around} {base h₀ : Heap} {L : Addr} {m : Str → Option Value} {news : List (Addr × Obj)} {s : Shared} {Q E : Value → Shared → Prop} {C : Addr} {vs : List Value} {kc : Nat} {code : List Ins}
    (hB : Below A₀ base outer h₀) (hF : Fr h₀ L s.heap m) (hK : (hd.heap_1 w.params).In h₀) (hN : News h₀ L s.heap news) (hT : Top seenText (looseW seenText [Str.ofString "OPERATIONS", Str.ofString "LAST_OPS", Str.ofString "QUIET_OPS"]) mean mg mb h₀) (hkd : cs.kind = .function) (hdp : dp + 8 < recursionLimit) (hun : un + 200 < cLine) (hC : (C, listOf vs.toArray kc) ∈ news) (hA : All2 (InsIn news) vs code) (hfit : code.length < 2 ^ 62) (hG : GoodCode code)
    (hnone : ∀ h' tk' n', Fr h₀ L h' m → News h₀ L h' n' → Grow news n' → Under code → Q .none { s with heap := h', toks := tk' })
    (hret : ∀ fd o xs fs h' tk' n', Fr h₀ L h' m → News h₀ L h' n' → Grow news n' → (fd, o) ∈ n' → (fd == sysModules) = false → HDict Challenge.rw_sm0039_01.row.prog w o xs → All2 (KIn n') xs fs → HFinal code fs → Q (.ref fd) { s with heap := h', toks := tk' }) :
    wpAny (model Challenge.rw_sm0039_01.row.prog w) (ktrTop dp un gd cn cs L a ccd cl outer) (call (.ref 323) [.ref C]) Q E s := by
  have hsz := hG.size
  have hps := hG.pos
  have hKd := kdMark
  revert hK; k_fill; intro hK
  refine wpAny_call ?_
  k_dflt (refine' code_def (binds := [(Str.ofString "code", .ref C)]) ?k1 ?k2 ?k3 ?k4 ?k5 ?kA ?kF ?kK ?k6 ?k7 ?k8 ?k9 ?kB ?_ ?c2 ?c3 ?c4 ?c5; (case kA => exact rfl); (case kF => exact rfl); (case kK => first | exact rfl | assumption); (case k1 => k_asm); (case k2 => k_asm); (case k3 => k_asm); (case k4 => k_asm); (case k5 => k_asm); (case k6 => k_is); (case k7 => k_is); (case k8 => ktr_room); (case k9 => exact BindsTo.of_eq rfl); (case c5 => decide); (case kB => exact locs rfl); (case c2 => exact rfl); (case c3 => exact rfl); (case c4 => exact rfl); k_whole; intro g' L' h' FG' F' N' B' X' T'; (try dsimp only); (try k_lift B'); (try k_fold))
  k_steps
  refine ⟨?_⟩
  rename_i tk0 d0 hA0 o0 l10 lo0 hs0 fs0 hd0 fi0 D1 hB0 l11 l0 hC0 l12 D2 hD0 l13 hE0 hF0 hG0 F0 N0
  have fdl : ∀ p ∈ news, p.1 < d0 := l10
  have wtl : ∀ p ∈ news, p.1 < l0 := tb_ltOf l12.2.2
  have ne0 : d0 ≠ l0 := Nat.ne_of_lt (by omega)
  have ne1 : l0 ≠ d0 := Nat.ne_of_gt (by omega)
  have hroom : room code ≤ 20100 := by
    unfold room
    have := Nat.mul_le_mul hsz (show 2 * code.length + 1 ≤ 201 by omega)
    omega
  refine While_J (fun k m₁ n₁ => TInv Challenge.rw_sm0039_01.row.prog w code news C d0 l0 k m₁ n₁) (n₀ := 3 * room code + 1) (by first | passes_own | with_unfolding_all passes_own) F0 N0 ?_ ?_
  · refine ⟨by rfl, by rfl, by rfl, by walk_at "m_grow", ⟨o0, [], [], _, [(0, 0)], 0, by walk_at "m_mem", hdict_nil hd0, .nil, by walk_at "m_mem", ?_, HPure.start⟩⟩
    exact .cons (.mk (PinT.cast (p := 0) (h := 0) (by walk_at "m_mem") rfl rfl)) .nil
  clear N0 F0 hd0 hs0 fs0 fi0
  intro k₁ m₁ n₁ h₁ tk₁ F₁ N₁ J₁
  obtain ⟨mc, mf, mw, G₁, o, xs, fs, us', W, c, ho, hd, hA', hw, hi, hp⟩ := J₁
  obtain ⟨r, rfl⟩ := map3 mc mf mw
  clear mc mf mw
  have hfs := hp.fsz hG
  have hws := hp.wsz
  rcases List.eq_nil_or_concat W with rfl | ⟨W', q, rfl⟩
  · k_steps
    exact hret _ _ _ _ _ _ _ (by k_asm) (by k_asm) (by walk_at "m_grow") (by walk_at "m_mem") lo0 hd (by walk_at "m_ks") hp.fin
  · rw [List.concat_eq_append] at *
    obtain ⟨p, hh⟩ := q
    have hre := hp.wreach (p, hh) (by simp)
    have hrb := hG.reach hre
    obtain ⟨ins, hins⟩ := hG.at hre
    simp only at hre hrb hins
    simp only [List.length_append, List.length_cons, List.length_nil] at hws
    have hwl : (W' ++ [(p, hh)]).length ≤ 1000000 := by rw [List.length_append, List.length_singleton]; omega
    have hwl2 : W'.length + 2 ≤ 1000000 := by omega
    have hwl1 : W'.length + 1 ≤ 1000000 := Nat.le_of_succ_le hwl2
    have hwf : ∀ t, ins.arg = some t → t < code.length := fun t q => (hG.jump _ _ _ hins q).2
    k_steps
    · obtain ⟨hk0, hskip⟩ := hp.skip (by assumption)
      exact ⟨_, _, _, _, k₁ - 1, rfl, by assumption, by assumption, by omega, by rfl, by rfl, by rfl, by walk_at "m_grow", ⟨o, xs, fs, _, W', c + 1, by walk_at "m_mem", hd, by walk_at "m_ks", by walk_at "m_mem", by walk_at "m_ws", hskip⟩⟩
    · refine ⟨?_⟩
      with_reducible rename ¬ (p, hh) ∈ fs => hnin
      with_reducible rename Put d0 _ _ _ => P2
      with_reducible rename HDict _ _ _ _ => D2
      with_reducible rename All2 (KIn _) _ (fs ++ [(p, hh)]) => K2
      with_reducible rename All2 (WIn _) _ W' => W1
      rename_i h2 o2 tk2 n2 xs2 F2 N2 T2
      have G2 : Grow news n2 := by walk_at "m_grow"
      have W2 := TupSub.ws (n' := n2) (by walk_at "m_tup") W1
      have m2 := P2.mem
      obtain ⟨us2, c2, w2, W2⟩ : ∃ us2 c2, (l0, listOf (List.toArray us2) c2) ∈ n2 ∧ All2 (WIn n2) us2 W' := ⟨_, _, by walk_at "m_mem", W2⟩
      have hC2 := G2.mem _ hC
      have hA2 : All2 (InsIn n2) vs code := hA.mono fun _ _ q => q.mono G2.mem
      clear P2 T2 W1 hi hA' hw ho hd G₁
      refine code_any N2 hC2 hA2 hins hfit hwf ?_
      intro x t av kx hx hav
      have hany : AnyMark := ⟨⟩
      k_steps
      · exact hnone _ _ _ (by k_asm) (by k_asm) (by walk_at "m_grow") (hp.under hins (Int.ofNat_lt.mp (by assumption)))
      refine ⟨?_⟩
      have ht : ins.taken ≤ hh := Int.ofNat_le.mp (Int.not_lt.mp (by assumption))
      with_reducible rename News g' L' _ _ => N3'
      with_reducible rename Fr g' L' _ _ => F3
      obtain ⟨n3, N3, G3⟩ : ∃ n, News g' L' _ n ∧ Grow n2 n := ⟨_, N3', ⟨fun q hq => .tail _ (.tail _ hq)⟩⟩
      have m3 := G3.mem _ m2
      have w3 := G3.mem _ w2
      have W3 := (TupSub.grow G3).ws W2
      have K3 := (TupSub.grow G3).ks K2
      have G3' := G2.trans G3
      clear N3' G3 m2 w2 W2 K2 hx hC2 hA2 G2
      rw [Ins.keep_iff]
      cases hk : ins.keep with
      | true =>
        obtain ⟨tj, hta, -, htk, -⟩ := Ins.keep_arg hk
        obtain ⟨hk0, hv⟩ := hp.visitA hG hnin hins ht hk hta
        k_steps
        refine ⟨?_⟩
        with_reducible rename News g' L' _ _ => N4
        with_reducible rename Fr g' L' _ _ => F4
        rename_i l4
        refine ext_w F4 N4 (.tail _ (.tail _ (.tail _ w3))) ((TupSub.grow ⟨fun q hq => .tail _ (.tail _ (.tail _ hq))⟩).ws W3) (.head _) (.cons (ins_ret hav hta (.tail _ (.tail _ (.head _)))) (.cons (.mk (PinT.cast (.tail _ (.head _)) rfl (Int.ofNat_sub (htk ▸ ht : 1 ≤ hh)).symm)) .nil)) (Nat.ne_of_lt (tb_ltOf l4.2.2 _ w3)) hwl2 ?_
        intro h5 us5 n5 cc5 F5 N5 P5 T5 W5
        k_steps
        exact ⟨_, _, _, _, k₁ - 1, rfl, by assumption, by assumption, Nat.sub_lt hk0 Nat.one_pos, by rfl, by rfl, by rfl, P5.grow G3'.tail.tail.tail wtl, ⟨_, _, fs ++ [(p, hh)], _, _, _, P5.keep (.tail _ (.tail _ (.tail _ m3))) ne0, D2, T5.ks ((TupSub.grow ⟨fun q hq => .tail _ (.tail _ (.tail _ hq))⟩).ks K3), P5.mem, W5, hv⟩⟩
      | false =>
        by_cases hr : ins = .ret
        · subst hr
          obtain ⟨hk0, hv⟩ := hp.visitR hG hnin hins ht
          k_steps
          exact ⟨_, _, _, _, k₁ - 1, rfl, by assumption, by assumption, Nat.sub_lt hk0 Nat.one_pos, by rfl, by rfl, by rfl, G3', ⟨_, _, fs ++ [(p, hh)], _, _, _, m3, D2, K3, w3, W3, hv⟩⟩
        · have h65 : ins.op ≠ 65 := fun e => hr (Ins.ret_iff.mp e)
          obtain ⟨hk0, hv⟩ := hp.visitC hG hnin hins ht hk
          have hif : IfMark := ⟨⟩
          k_steps
          refine ⟨?_⟩
          have ehb : (hh : Int) + ((ins.put : Int) - (ins.taken : Int)) = ((hh - ins.taken + ins.put : Nat) : Int) := by omega
          with_reducible rename News g' L' _ _ => N4'
          with_reducible rename Fr g' L' _ _ => F4'
          rw [ehb] at F4'
          obtain ⟨mm, hmm, F4⟩ : ∃ mm, mm = _ ∧ Fr g' L' _ mm := ⟨_, rfl, F4'⟩
          obtain ⟨n4, N4, G4⟩ : ∃ n, News g' L' _ n ∧ Grow n3 n := ⟨_, N4', ⟨fun q hq => .tail _ hq⟩⟩
          have m4 := G4.mem _ m3
          have w4 := G4.mem _ w3
          have W4 := (TupSub.grow G4).ws W3
          have K4 := (TupSub.grow G4).ks K3
          have G4' := G3'.trans G4
          clear N4' F4' G4 m3 w3 W3 K3 G3' ehb
          refine mid (fun v h' => ∃ D ys cc n', v = .ref D ∧ Fr g' L' h' mm ∧ News g' L' h' n' ∧ Grow n4 n' ∧ (D, listOf (List.toArray ys) cc) ∈ n' ∧ All2 (WIn n') ys (ins.far hh) ∧ l0 ≠ D) ?_ ?_
          · subst hmm
            k_steps
            · with_reducible rename (List.any _ _ = true) => ha
              rw [Ins.jmp_any hk, Option.isSome_iff_exists] at ha
              obtain ⟨tj, hta⟩ := ha
              have ef : ins.far hh = [(tj, hh - ins.taken + ins.put)] := by unfold Ins.far; rw [hta]
              with_reducible rename (_ < _ ∧ _ < _ ∧ AllLt _ n4) => l5
              exact ⟨⟨_, _, rfl, _, [_], 0, _, rfl, by k_asm, by k_asm, ⟨fun q hq => .tail _ (.tail _ (.tail _ hq))⟩, .head _, by rw [ef]; exact .cons (ins_ret hav hta (.tail _ (.head _))) .nil, Nat.ne_of_lt (tb_ltOf l5.2.2 _ w4)⟩⟩
            · with_reducible rename (List.any _ _ = false) => ha
              rw [Ins.jmp_any hk, Option.isSome_eq_false_iff, Option.isNone_iff_eq_none] at ha
              have ef : ins.far hh = [] := by unfold Ins.far; rw [ha]
              with_reducible rename (_ < _ ∧ AllLt _ n4) => l5
              exact ⟨⟨_, _, rfl, _, [], 0, _, rfl, by k_asm, by k_asm, ⟨fun q hq => .tail _ (.tail _ hq)⟩, .head _, by rw [ef]; exact .nil, Nat.ne_of_lt (tb_ltOf l5.2 _ w4)⟩⟩
          rintro v h5 tk5 ⟨D5, ys5, cc5, n5, rfl, F5, N5, G5, h5D, A5, ne5⟩
          subst hmm
          k_steps
          refine ⟨?_⟩
          refine ext_w (by k_asm) N5 (G5.mem _ w4) ((TupSub.grow G5).ws W4) h5D A5 ne5 (Nat.le_trans (Nat.add_le_add_left (ins.far_len hh) _) hwl1) ?_
          intro h6 us6 n6 cc6 F6 N6 P6 T6 W6
          have m6 := P6.keep (G5.mem _ m4) ne0
          have w6 := P6.mem
          have K6 := T6.ks ((TupSub.grow G5).ks K4)
          have G6 := P6.grow (G4'.trans G5) wtl
          have hwl6 : (W' ++ ins.far hh).length + 1 ≤ 1000000 := by rw [List.length_append]; exact Nat.le_trans (Nat.succ_le_succ (Nat.add_le_add_left (ins.far_len hh) _)) hwl2
          clear m4 w4 K4 W4 G4' P6 T6 N5 A5 G5 h5D ne5
          have hif : IfMark := ⟨⟩
          k_steps
          refine ⟨?_⟩
          with_reducible rename News g' L' _ _ => N7
          with_reducible rename Fr g' L' _ _ => F7'
          obtain ⟨mm, hmm, F7⟩ : ∃ mm, mm = _ ∧ Fr g' L' _ mm := ⟨_, rfl, F7'⟩
          clear F7'
          refine mid (fun v h' => ∃ D ys cc n', v = .ref D ∧ Fr g' L' h' mm ∧ News g' L' h' n' ∧ Grow n6 n' ∧ (D, listOf (List.toArray ys) cc) ∈ n' ∧ All2 (WIn n') ys (ins.near p hh) ∧ l0 ≠ D) ?_ ?_
          · subst hmm
            k_steps
            · have ef : ins.near p hh = [(p + 1, hh - ins.taken + ins.put)] := by unfold Ins.near; rw [Ins.last_iff hr, decide_eq_false (by assumption)]; rfl
              with_reducible rename (_ < _ ∧ AllLt _ n6) => l5
              exact ⟨⟨_, _, rfl, _, [_], 0, _, rfl, by k_asm, by k_asm, ⟨fun q hq => .tail _ (.tail _ hq)⟩, .head _, by rw [ef]; exact .cons (.mk (.mk (.tail _ (.head _)))) .nil, Nat.ne_of_lt (tb_ltOf l5.2 _ w6)⟩⟩
            · have ef : ins.near p hh = [] := by unfold Ins.near; rw [Ins.last_iff hr, decide_eq_true (by assumption)]; rfl
              with_reducible rename (∀ p ∈ n6, p.1 < _) => l5
              exact ⟨⟨_, _, rfl, _, [], 0, _, rfl, by k_asm, by k_asm, ⟨fun q hq => .tail _ hq⟩, .head _, by rw [ef]; exact .nil, Nat.ne_of_lt (l5 _ w6)⟩⟩
          rintro v h8 tk8 ⟨D8, ys8, cc8, n8, rfl, F8, N8, G8, h8D, A8, ne8⟩
          subst hmm
          k_steps
          refine ⟨?_⟩
          refine ext_w (by k_asm) N8 (G8.mem _ w6) ((TupSub.grow G8).ws W6) h8D A8 ne8 (Nat.le_trans (Nat.add_le_add_left (ins.near_len p hh) _) hwl6) ?_
          intro h9 us9 n9 cc9 F9 N9 P9 T9 W9
          k_steps
          exact ⟨_, _, _, _, k₁ - 1, rfl, by assumption, by assumption, Nat.sub_lt hk0 Nat.one_pos, by rfl, by rfl, by rfl, P9.grow (G6.trans G8) wtl, ⟨_, _, fs ++ [(p, hh)], _, _, _, P9.keep (G8.mem _ m6) ne0, D2, T9.ks ((TupSub.grow G8).ks K6), P9.mem, W9, hv⟩⟩
end
section
set_option maxRecDepth 100000
/-- an expression that makes what P says and lets all else stand -/
def EvTo (prog : Program) (w : World) (A : Around) (E : Value → Shared → Prop) (h₀ : Heap) (L : Addr) (m : Str → Option Value) (env : Env) (e : PySem.Expr) (P : List (Addr × Obj) → Value → Prop) : Prop :=
  ∀ (s : Shared) (n : List (Addr × Obj)) (Q : Value → Shared → Prop), Fr h₀ L s.heap m → News h₀ L s.heap n → (∀ v h' tk' n', Fr h₀ L h' m → News h₀ L h' n' → Grow n n' → P n' v → Q v { s with heap := h', toks := tk' }) → wpAny (model prog w) A (eval e env) Q E s
def EvAll (prog : Program) (w : World) (A : Around) (E : Value → Shared → Prop) (h₀ : Heap) (L : Addr) (m : Str → Option Value) (env : Env) (es : List PySem.Expr) (Ps : List (List (Addr × Obj) → Value → Prop)) : Prop :=
  ∀ (s : Shared) (n : List (Addr × Obj)) (pos : Pos) (Q : List Value → Shared → Prop), Fr h₀ L s.heap m → News h₀ L s.heap n → (∀ vs h' tk' n', Fr h₀ L h' m → News h₀ L h' n' → Grow n n' → (∀ n'', Grow n' n'' → All2 (fun v (P : List (Addr × Obj) → Value → Prop) => P n'' v) vs Ps) → Q vs { s with heap := h', toks := tk' }) → wpAny (model prog w) A (spliced (backTo pos (starEach es env))) Q E s
def MonoP (P : List (Addr × Obj) → Value → Prop) : Prop := ∀ {n n' : List (Addr × Obj)} {v : Value}, Grow n n' → P n v → P n' v
section
variable {prog : Program} {w : World} {A : Around} {E : Value → Shared → Prop} {h₀ : Heap} {L : Addr} {m : Str → Option Value} {env : Env} {e : PySem.Expr} {es : List PySem.Expr} {P : List (Addr × Obj) → Value → Prop} {Ps : List (List (Addr × Obj) → Value → Prop)}
theorem ev_nil : EvAll prog w A E h₀ L m env [] [] := fun s n _ _ F N h => args_nil (h [] s.heap s.toks n F N (Grow.refl n) fun _ _ => .nil)
theorem ev_cons (hP : MonoP P) (h1 : EvTo prog w A E h₀ L m env e P) (hs : starEach (e :: es) env = (false, eval e env) :: starEach es env) (h2 : EvAll prog w A E h₀ L m env es Ps) : EvAll prog w A E h₀ L m env (e :: es) (P :: Ps) :=
  fun s n _ _ F N h => args_cons (h1 s n _ F N fun v h' tk' n' F' N' G' p => h2 { s with heap := h', toks := tk' } n' _ _ F' N' fun vs h'' tk'' n'' F'' N'' G'' a => h (v :: vs) h'' tk'' n'' F'' N'' (G'.trans G'') fun n3 g3 => .cons (hP (G''.trans g3) p) (a n3 g3)) hs
theorem ev_list {pos : Pos} (hl : Ps.length ≤ 100) (hes : EvAll prog w A E h₀ L m env es Ps) : EvTo prog w A E h₀ L m env (.List es pos) (fun n v => ∃ l vs, v = .ref l ∧ (l, listOf (List.toArray vs) 0) ∈ n ∧ All2 (fun v (P : List (Addr × Obj) → Value → Prop) => P n v) vs Ps) :=
  fun s n _ F N h => List_ (hes s n pos _ F N fun vs h' tk' _ F' N' G' a => newList_K (s := { s with heap := h', toks := tk' }) F' N' (fun l h'' F'' N'' _ => h (.ref l) h'' tk' _ F'' N'' G'.tail ⟨l, vs, rfl, .head _, a _ (Grow.refl _).tail⟩) (by rw [sizeLine_eq, (a _ (Grow.refl _)).length]; omega))
def rowP (r : Nat) (n : List (Addr × Obj)) (v : Value) : Prop := RowIn n v r
def rawP (g : Nat → Nat → Ins) (n : List (Addr × Obj)) (v : Value) : Prop := ∀ far last, RawI n v (g far last)
theorem rowP_mono (r : Nat) : MonoP (rowP r) := fun g h => (SeqSub.grow g).row h
theorem rawP_mono (g : Nat → Nat → Ins) : MonoP (rawP g) := fun gr h far last => match h far last with | .mk h1 h2 => .mk (gr.mem _ h1) h2
theorem ev_row {r : Nat} {gs : List (Nat → Nat → Ins)} {pos : Pos} (he : ∀ far last, rowOf r far last = gs.map fun g => g far last) (hl : (gs.map rawP).length ≤ 100) (hes : EvAll prog w A E h₀ L m env es (gs.map rawP)) : EvTo prog w A E h₀ L m env (.List es pos) (rowP r) :=
  fun s n _ F N h => ev_list hl hes s n _ F N fun v h' tk' n' F' N' G' ⟨l, vs, e, hm, a⟩ => h v h' tk' n' F' N' G' (e ▸ .mk hm fun far last => by
    rw [he far last]
    have key : ∀ {vs : List Value} {gs : List (Nat → Nat → Ins)}, All2 (fun v (P : List (Addr × Obj) → Value → Prop) => P n' v) vs (gs.map rawP) → All2 (RawI n') vs (gs.map fun g => g far last) := by
      intro vs gs
      induction gs generalizing vs with
      | nil => intro h; cases h; exact .nil
      | cons g gs ih => intro h; cases h with | cons h1 h2 => exact .cons (h1 far last) (ih h2)
    exact key a)
theorem rows_all {n : List (Addr × Obj)} {vs : List Value} {rs : List Nat} (h : All2 (fun v (P : List (Addr × Obj) → Value → Prop) => P n v) vs (rs.map rowP)) : All2 (RowIn n) vs rs := by
  induction rs generalizing vs with
  | nil => cases h; exact .nil
  | cons r rs ih => cases h with | cons h1 h2 => exact .cons h1 (ih h2)
end
section
variable {prog : Program} {w : World} {A : Around} {E : Value → Shared → Prop} {h₀ : Heap} {L : Addr} {m : Str → Option Value} {K : Frag} {a : Addr} {mg mb : Str → Option Value} {cn : Str} {cs : Scope} {ccd : Value} {cl : List (Str × Addr)} {p : Program} {loose : List Str}
/-- a constant of the table: makes a value, and none but it -/
def EvC (M : Model) (A : Around) (E : Value → Shared → Prop) (env : Env) (c : PySem.Expr) (P : Value → Prop) : Prop :=
  ∀ (s : Shared) (Q : Value → Shared → Prop), (∀ v tk, P v → Q v { s with toks := tk }) → wpAny M A (eval c env) Q E s
theorem evc_none {env : Env} {k : Nat} {pos : Pos} {g : Nat → Nat → Ins} (h : ∀ far last, (g far last).arg = none) : EvC (model prog w) A E env (.Constant .none k pos) (fun v => ∀ far last, WOf (g far last) v) :=
  fun s _ hQ => wpAny_Constant_none (hQ .none s.toks fun far last => .none (h far last))
theorem evc_int {env : Env} {k : Nat} {pos : Pos} {i : Int} {g : Nat → Nat → Ins} (h : ∀ far last t, WOf (g far last) (.int i t)) : EvC (model prog w) A E env (.Constant (.int i) k pos) (fun v => ∀ far last, WOf (g far last) v) :=
  fun s _ hQ => wpAny_Constant_int (hQ (.int i s.toks) (s.toks + 1) fun far last => h far last _)
theorem evc_neg {env : Env} {k : Nat} {pos pos' : Pos} {i : Int} {g : Nat → Nat → Ins} (h : ∀ far last t, WOf (g far last) (.int (-i) t)) : EvC (model prog w) A E env (.UnaryOp .USub (.Constant (.int i) k pos) pos') (fun v => ∀ far last, WOf (g far last) v) :=
  fun s _ hQ => UnaryOp_ (wpAny_Constant_int (neg_int (hQ (.int (-i) (s.toks + 1)) (s.toks + 1 + 1) fun far last => h far last _)))
theorem ev_tup {x : Str} {c : PySem.Expr} {k : Nat} {p1 pos : Pos} {z : Int} {u : Tok} {g : Nat → Nat → Ins} (X : K.In h₀) (T : TopRead p loose mg mb h₀) (hx : nsIn K mainGlobals x = some (some (.int z u))) (hz : ∀ far last, (g far last).op = z)
    (h1 : cs.kind = .function) (h2 : (envX cn cs L a ccd cl).kindOf x = some .globalImplicit) (h3 : (x == Str.ofString "__debug__") = false) (hc : EvC (model prog w) A E (envX cn cs L a ccd cl) c (fun v => ∀ far last, WOf (g far last) v)) (hs : starEach [c] (envX cn cs L a ccd cl) = (false, eval c (envX cn cs L a ccd cl)) :: starEach [] (envX cn cs L a ccd cl)) :
    EvTo prog w A E h₀ L m (envX cn cs L a ccd cl) (.Tuple [.Name x p1, c] k pos) (rawP g) :=
  fun s n _ F N h => Tuple_ (args_cons (nameX_K F X T hx (args_cons (hc s _ fun v tk hv => args_nil (kup_newTuple (s := { s with toks := tk }) F N (fun D h' F' N' _ => h (.ref D) h' tk _ F' N' (Grow.refl n).tail fun far last => (hz far last) ▸ .mk (k := 0) (.head _) (hv far last)) (by rw [sizeLine_eq]; exact Nat.le_of_ble_eq_true rfl))) hs) h1 h2 h3) rfl)
end
theorem raw_three {b far last : Nat} {i : Ins} {wv : Value} (hm : i ∈ rowOf b far last) (hw : WOf i wv) : (wv = .none ∧ i.arg = none) ∨ (∃ u, wv = .int 0 u ∧ i.arg = some far) ∨ (∃ u, wv = .int (-1) u ∧ i.arg = some last) := by
  cases hw with
  | none h => exact .inl ⟨rfl, h⟩
  | jmp => exact .inr (.inl ⟨_, rfl, congrArg some ((rowOf_jumps hm).1 _ rfl)⟩)
  | jf => exact .inr (.inl ⟨_, rfl, congrArg some ((rowOf_jumps hm).2.1 _ rfl)⟩)
  | jfk => exact .inr (.inr ⟨_, rfl, congrArg some ((rowOf_jumps hm).2.2.1 _ rfl)⟩)
  | jtk => exact .inr (.inr ⟨_, rfl, congrArg some ((rowOf_jumps hm).2.2.2 _ rfl)⟩)
end
section
open LCg
theorem words_V8_15 : True := by
  k_with_none
  k_with "m_mem" => first | assumption | exact List.Mem.head _ | (refine List.mem_cons_of_mem _ ?_; walk_at "m_mem") | (refine List.mem_append_left _ ?_; walk_at "m_mem") | (refine List.mem_append_right _ ?_; walk_at "m_mem") | exact Put.mem (by assumption) | (refine' Grow.mem ?q9mg _ ?q9mh; (case q9mg => with_reducible assumption); (case q9mh => walk_at "m_mem")) | (refine' Put.keep ?q9mp ?q9mh ?q9mn; (case q9mp => with_reducible assumption); (case q9mh => walk_at "m_mem"); (case q9mn => walk_at "m_ne")) | (refine' Grow.mem ?q9mg _ ?q9mh; (case q9mh => with_reducible assumption); (case q9mg => walk_at "m_grow")) | fail "m_mem"
  k_with "m_ne" => first | assumption | exact Ne.symm (by assumption) | (refine Nat.ne_of_lt ?_; walk_at "m_lt") | (refine Nat.ne_of_gt ?_; walk_at "m_lt") | fail "m_ne"
  k_with "m_all" => first | assumption | exact tb_ltOf (And.right (by with_reducible assumption)) | exact tb_ltOf (And.right (And.right (by with_reducible assumption))) | exact tb_ltOf (And.right (And.right (And.right (by with_reducible assumption)))) | exact tb_ltOf (And.right (And.right (And.right (And.right (by with_reducible assumption))))) | exact tb_ltOf (And.right (And.right (And.right (And.right (And.right (by with_reducible assumption)))))) | fail "m_all"
  k_with "m_lt" => first | assumption | omega | (refine' lt_mem ?q9ma ?q9mb; (case q9mb => assumption); (case q9ma => first | assumption | exact tb_ltOf (by assumption))) | (refine' lt_mem ?q9ma ?q9mb; (case q9ma => walk_at "m_all"); (case q9mb => walk_at "m_mem")) | (solve_by_elim (config := { maxDepth := 3 })) | fail "m_lt"
  k_with "m_below" => first | assumption | (refine tb_ltOf ?_; (try simp only [AllLt, and_true]); first | assumption | omega) | fail "m_below"
  k_with "m_grow" => first | exact Grow.refl _ | assumption | (refine' Grow.cons ?q9ml ?q9mg; (case q9ml => walk_at "m_below"); (case q9mg => walk_at "m_grow")) | (refine' Grow.trans ?q9mg ?q9mk; (case q9mk => assumption); (case q9mg => walk_at "m_grow")) | (refine' Put.grow ?q9mp ?q9mg ?q9ml; (case q9mp => with_reducible assumption); (case q9ml => walk_at "m_below"); (case q9mg => walk_at "m_grow")) | fail "m_grow"
  k_with "m_news" => first | k_asm | (refine' cb_drop ?q9mN ?q9mS; (case q9mN => assumption); (case q9mS => (intro _ _; walk_at "m_mem"))) | fail "m_news"
  k_with "m_enter" => (refine' code_def ?q9k1 ?q9k2 ?q9k3 ?q9k4 ?q9k5 ?q9kA ?q9kF ?q9kK ?q9k6 ?q9k7 ?q9k8 ?q9k9 ?q9kB ?_ ?q9c2 ?q9c3 ?q9c4 ?q9c5; (case q9kA => exact rfl); (case q9kF => exact rfl); (case q9kK => first | exact rfl | assumption); (case q9k1 => k_asm); (case q9k2 => k_asm); (case q9k3 => k_asm); (case q9k4 => k_asm); (case q9k5 => k_asm); (case q9k6 => k_is); (case q9k7 => k_is); (case q9k8 => ktr_room); (case q9k9 => exact BindsTo.of_eq rfl); (case q9c5 => decide); (case q9kB => exact locs rfl); (case q9c2 => exact rfl); (case q9c3 => exact rfl); (case q9c4 => exact rfl); k_whole; walk_at "m_z0")
  k_with "call ref" => (k_here; k_dflt (first
  | (refine' call_cls ?q9k1 ?q9k2 ?q9k3 ?q9k4 ?q9k5 ?q9k6 ?_; (case q9k1 => k_asm); (case q9k2 => k_asm); (case q9k3 => k_asm); (case q9k4 => k_is); (case q9k5 => k_is); (case q9k6 => k_is); k_whole; walk_at "m_z1")
  | (refine wpAny_call ?_; walk_at "m_enter")))
  k_with "m_start" => (with_reducible rename Frag.In _ _ => hK9; revert hK9; k_fill; intro hK9)
  k_with "m_unit" => first | assumption | (refine' UnitIn.mono ?q9ma ?q9mb; (case q9mb => assumption); (case q9ma => (refine Grow.mem ?_; walk_at "m_grow"))) | fail "m_unit"
  k_with "m_code" => first | assumption | (refine' All2.mono ?q9mb ?q9ma; (case q9mb => assumption); (case q9ma => (refine fun _ _ q => InsIn.mono ?_ q; refine Grow.mem ?_; walk_at "m_grow"))) | fail "m_code"
  k_with "exec For" => (k_here; walk_at "m_z2")
  k_with "exec For Name Attribute cons nil" => (k_here; walk_at "m_z2")
  k_with "exec For Name Name cons nil" => (k_here; walk_at "m_z2")
  k_with "exec For Tuple Call" => (k_here; walk_at "m_z2")
  k_with "exec For Tuple Name cons nil" => (k_here; walk_at "m_z2")
  k_with "exec For Name Call cons nil" => (k_here; walk_at "m_z2")
  k_with "last exec For" => (k_here; walk_at "m_z2")
  k_with "exec For Tuple Call cons nil" => (k_here; walk_at "m_z2")
  k_with "pyIter ref" => (k_here; (with_reducible show wpAny _ _ (pyIter (Value.ref _)) (fun it s₂ => TurnsAt _ _ _ _ _ _ _ _ _ it s₂) _ _); (with_unfolding_all refine' iter_listNil ?q9k1 ?q9k2 ?q9k3 ?q9k4 ?_; (case q9k1 => rfl); (case q9k2 => k_asm); (case q9k3 => k_asm); (case q9k4 => walk_at "m_mem"); k_whole); intro _ _ _ _; (try dsimp only); (try k_fold))
  k_with "call type:enumerate" => (k_here; (with_reducible show wpAny _ _ (call (Value.type _) [Value.ref _]) (fun xv s₁ => wpAny _ _ (pyIter xv) (fun it s₂ => TurnsAt _ _ _ _ _ _ _ _ _ it s₂) _ s₁) _ _); (with_unfolding_all refine' enum_nil ?q9k1 ?q9k2 ?q9k3 ?q9k4 ?_; (case q9k1 => rfl); (case q9k2 => k_asm); (case q9k3 => k_asm); (case q9k4 => walk_at "m_mem"); k_whole); intro _ _ _ _; (try dsimp only); (try k_fold))
  k_with "compareOp NotEq ref ref" => (k_here; (with_unfolding_all refine' ne_nils ?q9k1 ?q9k2 ?q9k3 ?q9k4 ?_; (case q9k1 => k_asm); (case q9k2 => walk_at "m_mem"); (case q9k3 => walk_at "m_mem"); (case q9k4 => ktr_units); k_whole))
  k_with "TurnPost" => (dsimp only [TurnPost])
  k_with "storeName" => (k_here; (with_reducible rename CellMark => hgo9); clear hgo9; k_dflt (refine' store_c ?q9F ?q9N ?q9c ?q9m ?q9d ?_ ?q9a ?q9b; (case q9a => rfl); (case q9b => rfl); (case q9F => k_asm); (case q9N => k_asm); (case q9c => rfl); (case q9m => walk_at "m_mem"); (case q9d => assumption)); intro _ _ _ _ _ _ _ _; (try dsimp only))
  k_with "subscriptTail Name" => (k_here; (with_reducible show wpAny _ _ (subscriptTail _ _ (Value.ref _) (Value.int (Int.fmod (Nat.cast _) 6) _)) _ _ _); k_dflt (refine' table_item ?q9k1 ?q9k2 ?q9k3 ?_ ?q9k7; (case q9k1 => k_asm); (case q9k3 => assumption); (case q9k2 => walk_at "m_mem"); (case q9k7 => with_unfolding_all rfl); k_whole); intro _ _)
  k_with "subscriptTail" => (k_here; (with_reducible show wpAny _ _ (subscriptTail _ _ (Value.ref _) (Value.int (Int.fmod (Nat.cast _) 6) _)) _ _ _); k_dflt (refine' table_item ?q9k1 ?q9k2 ?q9k3 ?_ ?q9k7; (case q9k1 => k_asm); (case q9k3 => assumption); (case q9k2 => walk_at "m_mem"); (case q9k7 => with_unfolding_all rfl); k_whole); intro _ _)
  k_with "CompSrc" => (refine Halt.out ?_)
  k_with "pyIter ref" => (k_here; (with_reducible show wpAny _ _ (pyIter (Value.ref _)) (fun it s₂ => TurnsAt _ _ _ _ _ _ _ _ _ it s₂) _ _); refine Halt.out ?_)
  k_with "call type:enumerate" => (k_here; (with_reducible show wpAny _ _ (call (Value.type _) [Value.ref _]) (fun xv s₁ => wpAny _ _ (pyIter xv) (fun it s₂ => TurnsAt _ _ _ _ _ _ _ _ _ it s₂) _ s₁) _ _); refine Halt.out ?_)
  k_with "call builtin:list.append" => (k_here; refine Halt.out ?_)
  k_with "binaryOp Add ref ref" => (k_here; k_dflt (refine' lists_add ?q9k1 ?q9k2 ?q9k3 ?q9k4 ?q9k5 ?_; (case q9k1 => k_asm); (case q9k2 => k_asm); (case q9k3 => walk_at "m_mem"); (case q9k4 => walk_at "m_mem"); (case q9k5 => (simp only [List.length_cons, List.length_nil]; omega)); k_whole); intro _ _ _ _ _; (try dsimp only))
  k_with "binaryOp FloorDiv int int" => (k_here; (with_reducible show wpAny _ _ (binaryOp Operator.FloorDiv (Value.int (Nat.cast _) _) (Value.int 6 _)) _ _ _); k_dflt (refine fdiv6 ?_))
  k_with "binaryOp Mod int int" => (k_here; (with_reducible show wpAny _ _ (binaryOp Operator.Mod (Value.int (Nat.cast _) _) (Value.int (_ - _) _)) _ _ _); k_dflt (refine fmodN (by assumption) (by assumption) ?_); intro _ _ _; (try dsimp only))
  k_with "subscriptTail Name" => (k_here; (with_reducible show wpAny _ _ (subscriptTail _ _ (Value.ref _) (Value.int _ _)) _ _ _); k_dflt (refine' ints_item ?q9k1 ?q9k2 ?q9k3 ?q9k4 ?q9k5 ?q9k6 ?_ ?q9k7; (case q9k1 => k_asm); (case q9k2 => walk_at "m_mem"); (case q9k3 => with_reducible assumption); (case q9k4 => omega); (case q9k5 => (first | omega | (simp only [List.length_map, List.length_range]; omega))); (case q9k6 => (first | omega | (simp only [List.length_map, List.length_range]; omega))); (case q9k7 => with_unfolding_all rfl); k_whole); intro _)
  k_with "subscriptTail" => (k_here; (with_reducible show wpAny _ _ (subscriptTail _ _ (Value.ref _) (Value.int _ _)) _ _ _); k_dflt (refine' ints_item ?q9k1 ?q9k2 ?q9k3 ?q9k4 ?q9k5 ?q9k6 ?_ ?q9k7; (case q9k1 => k_asm); (case q9k2 => walk_at "m_mem"); (case q9k3 => with_reducible assumption); (case q9k4 => omega); (case q9k5 => (first | omega | (simp only [List.length_map, List.length_range]; omega))); (case q9k6 => (first | omega | (simp only [List.length_map, List.length_range]; omega))); (case q9k7 => with_unfolding_all rfl); k_whole); intro _)
  k_with "m_raws" => first | exact All2.nil | (refine' All2.cons (RawI.mk ?q9m ?q9w) ?q9r; (case q9m => walk_at "m_mem"); (case q9w => first | exact WOf.jmp | exact WOf.jf | exact WOf.jfk | exact WOf.jtk | exact WOf.none rfl); (case q9r => walk_at "m_raws"))
  k_with "m_row" => (refine' RowIn.mk ?q9m ?q9f; (case q9m => walk_at "m_mem"); (case q9f => (intro _ _; walk_at "m_raws")))
  k_with "m_seq" => first | walk_at "m_mem" | exact SeqSub.sub (by with_reducible assumption) _ _ _ _ (by with_reducible assumption)
  k_with "call builtin:len" => (k_here; (with_reducible show wpAny _ _ (call (Value.builtin "len") [Value.ref _]) _ _ _); k_dflt (refine' list_len ?q9k1 ?q9k2 ?q9k3 ?q9k4 ?_; (case q9k1 => k_asm); (case q9k2 => walk_at "m_seq"); (case q9k3 => assumption); (case q9k4 => omega); k_whole))
  k_with "subscriptTail Name Slice ref ref" => (k_here; (with_reducible show wpAny _ _ (subscriptTail _ (PySem.Expr.Slice none (some _) none _) (Value.ref _) (Value.ref _)) _ _ _); k_dflt (refine' list_upto ?q9k1 ?q9k2 ?q9k3 ?q9k4 ?q9k5 ?_ ?q9k6 ?q9k7; (case q9k1 => k_asm); (case q9k2 => k_asm); (case q9k3 => walk_at "m_seq"); (case q9k4 => omega); (case q9k5 => omega); (case q9k6 => with_unfolding_all rfl); (case q9k7 => (intro _; with_unfolding_all rfl)); k_whole); intro _ _ _ _ _; (try dsimp only))
  k_with "call builtin:sum" => (k_here; (with_reducible show wpAny _ _ (call (Value.builtin "sum") [Value.ref _]) _ _ _); k_dflt (refine' sumK ?q9k0 ?q9k1 ?q9k2 ?q9k3 ?q9k4 ?_; (case q9k0 => rfl); (case q9k1 => k_asm); (case q9k2 => k_asm); (case q9k3 => exact ⟨_, (News.get (by k_asm) (by walk_at "m_mem")), rfl, _, rfl⟩); (case q9k4 => assumption); k_whole); intro _ _ _ _ _; (try dsimp only))
  k_with "eval IfExp" => (k_here; (with_reducible rename IfMark => hgo9); clear hgo9; refine Halt.out ?_)
  k_with "eval List" => (k_here; (with_reducible rename AnyMark => hgo9); clear hgo9; refine Halt.out ?_)
  k_with "m_raw" => (refine' ev_cons (rawP_mono _) (ev_tup ?q9X ?q9T ?q9x ?q9z rfl rfl rfl ?q9c rfl) rfl ?_; (case q9X => k_asm); (case q9T => k_asm); (case q9x => k_is); (case q9z => (intro _ _; rfl)); (case q9c => first | exact evc_none (fun _ _ => rfl) | exact evc_int (fun _ _ _ => WOf.jmp) | exact evc_int (fun _ _ _ => WOf.jf) | exact evc_neg (fun _ _ _ => WOf.jfk) | exact evc_neg (fun _ _ _ => WOf.jtk)))
  trivial
set_option maxRecDepth 100000 in
set_option maxHeartbeats 8000000 in
theorem c_pieces {w : World} {mean : ExcName → Option Value} {mg mb : Str → Option Value} {dp un : Nat} {gd : Option (List Code)} {cn : Str} {cs : Scope} {a : Addr} {ccd : Value} {cl : List (Str × Addr)} {outer : List Env} {A₀ : Around} {base h₀ : Heap} {L : Addr} {m : Str → Option Value} {news : List (Addr × Obj)} {s : Shared} {Q E : Value → Shared → Prop} {C : Addr} {us : List Value} {c : Nat} {ns : List Nat}
    (hB : Below A₀ base outer h₀) (hF : Fr h₀ L s.heap m) (hK : (hd.heap_1 w.params).In h₀) (hN : News h₀ L s.heap news) (hT : Top seenText (looseW seenText [Str.ofString "OPERATIONS", Str.ofString "LAST_OPS", Str.ofString "QUIET_OPS"]) mean mg mb h₀) (hkd : cs.kind = .function) (hdp : dp + 4 < recursionLimit) (hun : un + 80 < cLine) (hC : (C, listOf us.toArray c) ∈ news) (hI : IntsAre us (ns.map Int.ofNat)) (hpos : 0 < ns.length) (hle : ns.length ≤ 4)
    (hret : ∀ D vs h' tk' n', Fr h₀ L h' m → News h₀ L h' n' → Grow news n' → (D, listOf (List.toArray vs) 0) ∈ n' → All2 (InsIn n') vs (pieces ns) → Q (.ref D) { s with heap := h', toks := tk' }) :
    wpAny (model Challenge.rw_sm0039_01.row.prog w) (ktrTop dp un gd cn cs L a ccd cl outer) (call (.ref 316) [.ref C]) Q E s := by
  have hKd := kdMark
  have hlen := hI.length
  rw [List.length_map] at hlen
  revert hK; k_fill; intro hK
  refine wpAny_call ?_
  k_dflt (refine' code_defC (binds := [(Str.ofString "cells", .ref C)]) ?k1 ?k2 ?k3 ?k4 ?k5 ?kA ?kF ?kK ?k6 ?k7 ?k8 ?k9 ?kB ?kD ?_ ?c2 ?c3 ?c4; (case kA => exact rfl); (case kF => exact rfl); (case kK => first | exact rfl | assumption); (case k1 => k_asm); (case k2 => k_asm); (case k3 => k_asm); (case k4 => k_asm); (case k5 => k_asm); (case k6 => k_is); (case k7 => k_is); (case k8 => ktr_room); (case k9 => exact BindsTo.of_eq rfl); (case kB => exact rfl); (case kD => decide +kernel); (case c2 => exact rfl); (case c3 => exact rfl); (case c4 => exact rfl); k_whole; intro g' L' h' tk' cells' FG' F' N' Y' B' X' T' l1; (try k_lt l1); k_cells Y'; (try simp only [List.cons_append, List.nil_append] at N'); (try dsimp only); (try k_lift B'); (try k_fold))
  have hro : AnyMark := ⟨⟩
  k_steps
  refine ⟨?_⟩
  with_reducible rename Fr g' L' _ _ => F1'
  with_reducible rename News g' L' _ _ => N1
  with_reducible rename (Obj.data _ = Data.cell _) => d2
  with_reducible rename (Obj.data _ = Data.cell _) => d1
  have F1 : Fr g' L' _ (fun y => if y = Str.ofString "cells" then some (Value.ref C) else none) := F1'
  clear F1'
  refine ev_list (Ps := [rowP 0, rowP 1, rowP 2, rowP 3, rowP 4, rowP 5]) (by decide) ?_ _ _ _ F1 N1 ?_
  · k_dflt (
      refine ev_cons (rowP_mono 0) (ev_row (gs := [fun f _ => .jmp f]) (fun _ _ => rfl) (by decide) ?_) rfl (ev_cons (rowP_mono 1) (ev_row (gs := [fun _ _ => .this, fun _ _ => .dup, fun _ _ => .add, fun _ _ => .pop]) (fun _ _ => rfl) (by decide) ?_) rfl (ev_cons (rowP_mono 2) (ev_row (gs := [fun _ _ => .this, fun _ _ => .this, fun _ _ => .swap, fun _ _ => .pop, fun _ _ => .pop]) (fun _ _ => rfl) (by decide) ?_) rfl (ev_cons (rowP_mono 3) (ev_row (gs := [fun _ _ => .this, fun _ _ => .not, fun f _ => .jf f]) (fun _ _ => rfl) (by decide) ?_) rfl (ev_cons (rowP_mono 4) (ev_row (gs := [fun _ _ => .this, fun _ l => .jfk l, fun _ _ => .this, fun _ _ => .pop]) (fun _ _ => rfl) (by decide) ?_) rfl (ev_cons (rowP_mono 5) (ev_row (gs := [fun _ _ => .this, fun _ l => .jtk l, fun _ _ => .this, fun _ _ => .not, fun _ _ => .pop]) (fun _ _ => rfl) (by decide) ?_) rfl ev_nil)))))
      all_goals (repeat walk_at "m_raw")
      all_goals exact ev_nil)
  rintro v hx9 tkx9 n1 F2 N2 Gx9 ⟨l0, rs, rfl, hlr, hAll9⟩
  have hTab : All2 (RowIn n1) rs [0, 1, 2, 3, 4, 5] := rows_all hAll9
  have G2 : Grow news n1 := ⟨fun p hp => Gx9.mem _ (.tail _ (.tail _ hp))⟩
  have hc2 := Gx9.mem _ (.head _)
  have hc1 := Gx9.mem _ (.tail _ (.head _))
  clear N1 hAll9 Gx9 F1
  have hgo : CellMark := ⟨⟩
  k_steps
  rename_i h3 o3 n3 F3 N3 P3 S3 D3
  refine ⟨?_⟩
  have hlr3 := S3.sub _ _ _ _ hlr
  have hT3 := S3.rows hTab
  have hC3 := S3.sub _ _ _ _ (G2.mem _ hC)
  have hc3 := P3.mem
  refine LCg.CompSrc.ledger (its := us.toArray) (k := c) (by rfl) (by k_asm) (by k_asm) hC3 (by rw [List.size_toArray, sizeLine_eq]; omega) ?_
  intro g9
  refine rest_U (fun i ys n => Grow n3 n ∧ All2 (RowIn n) ys ((ns.take i).map (· % 6))) ⟨Grow.refl _, by simpa using All2.nil⟩ ?_ ?_
  · rintro i v I oI C9 oC9 D9 m₂ h₂ tk₂ E₂ ys n₂ hi hv ⟨hg₂, hA₂⟩ hNs hx F₂ N₂ off₂ ne₂
    have hT₂ := (SeqSub.grow hg₂).rows hT3
    have hlr₂ := hg₂.mem _ hlr3
    have hc₂ := hg₂.mem _ hc3
    obtain ⟨t₂, e₂⟩ := hI.int_at i v (by simpa using hv)
    have e₃ : (ns.map Int.ofNat).getD i 0 = ((ns.getD i 0 : Nat) : Int) := by
      have : i < ns.length := by rw [List.size_toArray] at hi; omega
      simp [List.getD_eq_getElem?_getD, this]
    rw [e₃] at e₂
    subst e₂
    k_steps
    with_reducible rename RowIn _ _ (ns.getD i 0 % 6) => hR₂
    refine LCg.CompEnd.intro (by k_asm) (by k_asm) n₂ (fun p hp => hp) off₂ (.inr ⟨_, hg₂.mem _ hC3, rfl, _, rfl⟩) ⟨hg₂, ?_⟩
    have hi₂ : i < ns.length := by rw [List.size_toArray] at hi; omega
    rw [List.take_succ, List.getElem?_eq_getElem hi₂, List.map_append]
    rw [List.getD_eq_getElem?_getD, List.getElem?_eq_getElem hi₂] at hR₂
    exact hA₂.append (.cons hR₂ .nil)
  · rintro ys n₂ ⟨hg₂, hA₂⟩
    rw [List.size_toArray, hlen, List.take_length] at hA₂
    have hys : ys.length = ns.length := by rw [hA₂.length, List.length_map]
    k_steps
    rename_i D4 hA4 tkA4 off4 l4 hB4 lt4 T4 hD4 ltB4 h4 F4 N4
    obtain ⟨n4, N4', G4, hC4, hso, hrow, hcd, hb4, ⟨o4, hcell, x4, hx4⟩, hcl4⟩ : ∃ n4, News g' L' h4 n4 ∧ Grow news n4 ∧ (C, listOf us.toArray c) ∈ n4 ∧ (D4, listOf ys.toArray ys.length) ∈ n4 ∧ All2 (RowIn n4) ys (ns.map (· % 6)) ∧ (l4, listOf #[] 0) ∈ n4 ∧ (∀ q ∈ n4, q.1 ≠ l4 ∨ q = (l4, listOf #[] 0)) ∧ (∃ o, (L' + 1 + 1, o) ∈ n4 ∧ ∃ v, o.data = .cell v) ∧ (∀ q ∈ news, q.1 < l4) := by
      have hcell3 : (L' + 1 + 1, _) ∈ n3 := P3.keep hc2 (Nat.succ_ne_self (L' + 1))
      have hnew4 : ∀ q ∈ news, q.1 < l4 := fun q hq => tb_ltOf lt4.2 q (hg₂.mem _ (P3.grow G2 (fun q hq => Nat.lt_succ_of_lt (l1 q hq)) |>.mem _ hq))
      refine ⟨_, N4, ⟨fun p hp => ?_⟩, ?_, ?_, ?_, ?_, ?_, ?_, hnew4⟩
      · exact .tail _ (.tail _ (.tail _ (hg₂.mem _ ((P3.grow G2 (fun q hq => Nat.lt_succ_of_lt (l1 q hq))).mem _ hp))))
      · exact .tail _ (.tail _ (.tail _ (hg₂.mem _ hC3)))
      · exact .tail _ (.tail _ (.head _))
      · exact (SeqSub.grow ((Grow.refl n₂).tail.tail.tail)).rows hA₂
      · exact .tail _ (.head _)
      · intro q hq
        rcases List.mem_cons.mp hq with rfl | hq
        · exact .inl (Nat.ne_of_gt ltB4.1)
        · rcases List.mem_cons.mp hq with rfl | hq
          · exact .inr rfl
          · rcases List.mem_cons.mp hq with rfl | hq
            · exact .inl (Nat.ne_of_lt lt4.1)
            · exact .inl (Nat.ne_of_lt (tb_ltOf lt4.2 q hq))
      · exact ⟨_, .tail _ (.tail _ (.tail _ (hg₂.mem _ hcell3))), _, by assumption⟩
    have hl4n : ∀ q ∈ news, q.1 ≠ l4 := fun q hq => Nat.ne_of_lt (hcl4 q hq)
    have hD4 : D4 ≠ l4 := by
      rcases hb4 _ hso with h | h
      · exact h
      · intro e
        have h2 := congrArg (fun q : Addr × Obj => q.2.data) h
        simp only [Data.seq.injEq] at h2
        have h3 := h2.2
        omega
    have hcl : (L' + 1 + 1 : Addr) ≠ l4 := by
      rcases hb4 _ hcell with h | h
      · exact h
      · have h2 := congrArg (fun q : Addr × Obj => q.2.data) h
        simp only [hx4] at h2
        cases h2
    have hy4 : ∀ v ∈ ys, v ≠ .ref l4 := fun v hv e => by
      obtain ⟨i, hi⟩ := List.getElem?_of_mem hv
      obtain ⟨r, _, q⟩ := hrow.get' hi
      subst e
      cases q with
      | @mk _ items9 _ _ q1 q2 =>
        have h2 := (N4' _ q1).1
        have h3 := (N4' _ hcd).1
        simp only at h2 h3
        rw [h3] at h2
        have h4 := congrArg Obj.data (Option.some.inj h2)
        simp only [Data.seq.injEq] at h4
        have h5 := (q2 0 0).length
        have h6 := rowLen_pos r
        have h7 : items9 = ([] : List Value) := by simpa using h4.1.symm
        rw [h7, rowOf_len] at h5
        simp at h5
        omega
    clear N4 hg₂ hA₂ P3 S3 D3 hlr3 hT3 hC3 hc3 hc1 hc2 hlr hTab G2
    have hgo : CellMark := ⟨⟩
    k_steps
    refine ⟨?_⟩
    with_reducible rename Put (L' + 1 + 1) _ n4 _ => P5
    with_reducible rename SeqSub n4 _ => S5
    with_reducible rename (Obj.data _ = Data.cell (some (Value.ref D4))) => D5
    with_reducible rename News g' L' _ _ => N5
    with_reducible rename Fr g' L' _ _ => F5
    with_reducible rename IsRange _ _ _ _ _ _ _ _ => hr5
    rename_i h5 o5 n5 h5a F5a N5a h5b tk5b t5 u5 v5 k5
    have hso5 := S5.sub _ _ _ _ hso
    have hC5 := S5.sub _ _ _ _ hC4
    have hcd5 := S5.sub _ _ _ _ hcd
    have hrow5 := S5.rows hrow
    have hcell5 := P5.mem
    refine LCg.CompSrc.range (n := ns.length + 1) (by rfl) F5 N5 hr5 (by have := range_small (ns.length + 1) (by omega); simpa using this) (by have := range_len (ns.length + 1); simpa using this) (by rw [sizeLine_eq]; omega) ?_
    intro g9
    refine rest_U (fun i zs n => Grow n5 n ∧ IntsAre zs ((List.range i).map fun j => (start ns j : Int))) ⟨Grow.refl _, .nil⟩ ?_ ?_
    · rintro i v I oI C9 oC9 D9 m₂ h₂ tk₂ E₂ zs n₂ hi ⟨t₂, rfl⟩ ⟨hg₂, hz₂⟩ hNs hx F₂ N₂ off₂ ne₂
      have hso₂ := hg₂.mem _ hso5
      have hrow₂ := (SeqSub.grow hg₂).rows hrow5
      have hcell₂ := hg₂.mem _ hcell5
      k_steps
      refine ⟨?_⟩
      with_reducible rename News g' L' _ _ => N6
      with_reducible rename Fr g' L' _ _ => F6
      rename_i D6 h6 B6
      have eix : (0 + (i : Int)).toNat = i := by omega
      rw [eix] at N6
      refine LCg.CompSrc.ledger (its := (ys.take i).toArray) (k := 0) (by rfl) F6 N6 (.head _) (by rw [List.size_toArray, List.length_take, sizeLine_eq]; omega) ?_
      intro g8
      generalize hn6 : (_ :: (I, oI) :: _ : List (Addr × Obj)) = n6 at N6
      have hsl6 : (D6, listOf (ys.take i).toArray 0) ∈ n6 := by rw [← hn6]; exact .head _
      have hrow6 : All2 (RowIn n6) ys (ns.map (· % 6)) := by
        rw [← hn6]
        exact (SeqSub.grow ((Grow.refl n₂).tail.tail.tail.tail)).rows hrow₂
      refine rest_U (fun j xs n => Grow n6 n ∧ IntsAre xs (((ns.take i).take j).map fun c => (rowLen (c % 6) : Int))) ⟨Grow.refl _, by simpa using IntsAre.nil⟩ ?_ ?_
      · rintro j v I8 oI8 C8 oC8 D8 m₈ h₈ tk₈ E₈ xs n₈ hj hv ⟨hg₈, hx₈⟩ hNs8 hx8 F₈ N₈ off₈ ne₈
        have hj2 : j < i ∧ j < ns.length := by
          rw [List.size_toArray, List.length_take] at hj
          omega
        have hv2 : ys[j]? = some v := by
          have : (ys.take i)[j]? = some v := by simpa using hv
          rw [List.getElem?_take] at this
          rw [if_pos hj2.1] at this
          exact this
        obtain ⟨b, hb, hr⟩ := ((SeqSub.grow hg₈).rows hrow6).get' hv2
        have hb2 : b = ns[j]'hj2.2 % 6 := by
          rw [List.getElem?_map, List.getElem?_eq_getElem hj2.2] at hb
          exact (Option.some.inj hb).symm
        cases hr with
        | @mk x8 items8 k8 _ hm8 ha8 =>
          have hlen8 : items8.length = rowLen b := (ha8 0 0).length
          have hle8 := rowLen_le b
          k_steps
          refine LCg.CompEnd.intro (by k_asm) (by k_asm) n₈ (fun p hp => hp) off₈ (.inr ⟨_, hg₈.mem _ hsl6, rfl, _, rfl⟩) ⟨hg₈, ?_⟩
          have e9 : ((ns.take i).take (j + 1)).map (fun c => (rowLen (c % 6) : Int)) = ((ns.take i).take j).map (fun c => (rowLen (c % 6) : Int)) ++ [(rowLen b : Int)] := by
            rw [List.take_succ, List.getElem?_take, if_pos hj2.1, List.getElem?_eq_getElem hj2.2, List.map_append, hb2]
            rfl
          rw [e9]
          exact ints_push _ _ hx₈
      · rintro xs n₈ ⟨hg₈, hx₈⟩
        k_steps
        rename_i hX tX sX
        refine LCg.CompEnd.intro (by k_asm) (by k_asm) n₂ (fun p hp => .tail _ (hg₈.mem _ (hn6 ▸ .tail _ hp))) off₂ trivial ⟨hg₂, ?_⟩
        rw [List.range_succ, List.map_append]
        have e9 : (((ns.take i).take (ys.take i).toArray.size).map fun c => (rowLen (c % 6) : Int)).sum = (start ns i : Int) := by
          rw [List.size_toArray, List.length_take, List.take_of_length_le (by rw [List.length_take]; omega)]
          unfold start
          generalize ns.take i = l
          induction l with
          | nil => rfl
          | cons a l ih => simp only [List.map_cons, List.sum_cons, ih]; omega
        rw [e9]
        exact ints_push _ _ hz₂
    · rintro zs n₂ ⟨hg₂, hz₂⟩
      k_steps
      refine ⟨?_⟩
      with_reducible rename News g' L' _ _ => N7
      with_reducible rename Fr g' L' _ _ => F7
      rename_i D7 h7 tk7 off7
      have hD7 : D7 ≠ l4 := fun e => by
        have h2 : ∀ {l : List (Addr × Obj)}, Off1 D7 l → ∀ p ∈ l, p.1 ≠ D7 := fun {l} => by
          induction l with
          | nil => intro _ p hp; cases hp
          | cons a l ih =>
            intro ho p hp
            rcases List.mem_cons.mp hp with rfl | hp
            · exact ho.1
            · exact ih ho.2 p hp
        exact h2 off7 _ (hg₂.mem _ hcd5) e.symm
      have hG5 : Grow news n5 := P5.grow G4 fun q hq => Nat.lt_succ_of_lt (Nat.lt_succ_of_lt (l1 q hq))
      let K0 : List (Addr × Obj) := [(C, listOf us.toArray c), (D4, listOf ys.toArray ys.length), (D7, lst zs), (L' + 1 + 1, o5)]
      have hK0 : ∀ q ∈ K0, q.1 ≠ l4 := by
        intro q hq
        simp only [K0, List.mem_cons, List.not_mem_nil, or_false] at hq
        rcases hq with rfl | rfl | rfl | rfl
        · exact hl4n _ hC
        · exact hD4
        · exact hD7
        · exact hcl
      have hp0 : PP K0 news l4 ys (ns.map (· % 6)) [] ((D7, lst zs) :: n₂) := by
        refine ⟨⟨fun q hq => .tail _ (hg₂.mem _ (hG5.mem _ hq))⟩, ?_, (SeqSub.grow (hg₂.trans (Grow.refl n₂).tail)).rows hrow5, [], 0, .tail _ (hg₂.mem _ hcd5), .nil⟩
        intro q hq
        simp only [K0, List.mem_cons, List.not_mem_nil, or_false] at hq
        rcases hq with rfl | rfl | rfl | rfl
        · exact .tail _ (hg₂.mem _ hC5)
        · exact .tail _ (hg₂.mem _ hso5)
        · exact .head _
        · exact .tail _ (hg₂.mem _ hcell5)
      have hCK : (C, listOf us.toArray c) ∈ K0 := by simp [K0]
      have hDK : (D4, listOf ys.toArray ys.length) ∈ K0 := by simp [K0]
      have hSK : (D7, listOf zs.toArray zs.length) ∈ K0 := by simp [K0]
      have hcK : (L' + 1 + 1, o5) ∈ K0 := by simp [K0]
      clear_value K0
      refine iter_enum (fun i m n => m (Str.ofString "starts") = some (.ref D7) ∧ m (Str.ofString "code") = some (.ref l4) ∧ m (Str.ofString "cells") = some (.ref C) ∧ PP K0 news l4 ys (ns.map (· % 6)) (((List.range i).map (piece ns)).flatten) n) (by rfl) F7 N7 (.tail _ (hg₂.mem _ hso5)) ⟨by rfl, by rfl, by rfl, hp0⟩ ?_ ?_
      · clear N7 F7 hp0
        rintro I i v T t m₁ n₁ h₁ tk₁ oE oI hv ⟨ms, mc, ml, hp⟩ hk hI hIc hEc hT F₁ N₁
        obtain ⟨r, rfl⟩ := map3 ms mc ml
        clear ms mc ml
        obtain ⟨b, hb, hr⟩ := hp.rows.get' hv
        have hil : i < ns.length := by rw [← hys]; exact (List.getElem?_eq_some_iff.mp hv).1
        have hb2 : b = ns.getD i 0 % 6 := by
          rw [List.getElem?_map, List.getElem?_eq_getElem hil] at hb
          rw [List.getD_eq_getElem?_getD, List.getElem?_eq_getElem hil]
          exact (Option.some.inj hb).symm
        have hx4' : v ≠ .ref l4 := hy4 _ (List.mem_of_getElem? hv)
        obtain ⟨cv0, cc0, hcv0, -⟩ := hp.code
        have hIl : l4 ≠ I := (hI _ hcv0).1
        have hIl' : l4 ≠ I + 1 := (hI _ hcv0).2
        cases hr with
        | @mk x items kx _ hmx hax =>
          have hx4 : x ≠ l4 := fun e => hx4' (by rw [e])
          have hxI := hI _ hmx
          k_steps
          refine ⟨?_⟩
          with_reducible rename News g' L' _ _ => N8
          with_reducible rename Fr g' L' _ _ => F8
          have hp8 : PP ([(I + 1, oE), (I, oI)] ++ K0) news l4 ys (ns.map (· % 6)) (((List.range i).map (piece ns)).flatten ++ (piece ns i).take 0) ((I + 1, oE) :: (I, oI) :: n₁) := by
            rw [List.take_zero, List.append_nil]
            refine (hp.up (Grow.refl n₁).tail.tail).more fun q hq => ?_
            simp only [List.mem_cons, List.not_mem_nil, or_false] at hq
            rcases hq with rfl | rfl
            · exact .head _
            · exact .tail _ (.head _)
          have hK1 : ∀ q ∈ [(I + 1, oE), (I, oI)] ++ K0, q.1 ≠ l4 := fun q hq => by
            rcases List.mem_append.mp hq with hq | hq
            · simp only [List.mem_cons, List.not_mem_nil, or_false] at hq
              rcases hq with rfl | rfl
              · exact hIl'.symm
              · exact hIl.symm
            · exact hK0 q hq
          refine iter_listD (fun j m n => m (Str.ofString "starts") = some (.ref D7) ∧ m (Str.ofString "code") = some (.ref l4) ∧ m (Str.ofString "cells") = some (.ref C) ∧ m (Str.ofString "at") = some (.int (i : Int) t) ∧ PP ([(I + 1, oE), (I, oI)] ++ K0) news l4 ys (ns.map (· % 6)) (((List.range i).map (piece ns)).flatten ++ (piece ns i).take j) n) (by rfl) F8 N8 (.tail _ (.tail _ hmx)) ⟨by rfl, by rfl, by rfl, by rfl, hp8⟩ ?_ ?_
          · clear N8 F8 hp8
            rintro I2 j v2 m₂ n₂' h₂ tk₂ o2 hv2 ⟨ms, mc, ml, ma, hp2⟩ hk2 hI2 hI2c F₂ N₂
            obtain ⟨r2, rfl⟩ := map4 ms mc ml ma
            clear ms mc ml ma
            have N₂' : News g' L' h₂ n₂' := fun q hq => N₂ q (.tail _ hq)
            obtain ⟨b', hb', hr'⟩ := hp2.rows.get' hv
            rw [hb] at hb'
            obtain rfl : b = b' := Option.some.inj hb'
            have hI2l : I2 ≠ l4 := fun e => by
              obtain ⟨cv, cc, q1, _⟩ := hp2.code
              exact hI2 _ q1 e.symm
            have hraw : ∀ far last, All2 (RawI n₂') items (rowOf b far last) := by
              cases hr' with
              | @mk _ items' kx' _ q1 q2 =>
                have e1 := (N₂' _ q1).1
                have e2 := (N₂' _ hk2).1
                simp only at e1 e2
                rw [e1] at e2
                have e3 := congrArg Obj.data (Option.some.inj e2)
                simp only [Data.seq.injEq] at e3
                have e4 : items' = items := by simpa using e3.1
                rw [← e4]; exact q2
            obtain ⟨ins, hins, hri⟩ := (hraw (start ns (i + 1 + ns.getD i 0 / 6 % (ns.length - i))) (start ns (i + 1) - 1)).get' hv2
            have hpc : piece ns i = rowOf b (start ns (i + 1 + ns.getD i 0 / 6 % (ns.length - i))) (start ns (i + 1) - 1) := by rw [hb2]; rfl
            have hins' : (piece ns i)[j]? = some ins := by rw [hpc]; exact hins
            have hCk := hp2.keep _ (List.mem_append_right _ hCK)
            have hDk := hp2.keep _ (List.mem_append_right _ hDK)
            have hSk := hp2.keep _ (List.mem_append_right _ hSK)
            have hck := hp2.keep _ (List.mem_append_right _ hcK)
            have hp3 : PP ([(I + 1, oE), (I, oI)] ++ K0) news l4 ys (ns.map (· % 6)) (((List.range i).map (piece ns)).flatten ++ (piece ns i).take j) ((I2, o2) :: n₂') := hp2.up (Grow.refl n₂').tail
            have hxI2 : x ≠ I2 := hI2 _ hk2
            obtain ⟨cv, cc, hcv, hcvA⟩ := hp2.code
            have hmem := List.mem_of_getElem? hins
            have ecode : ((List.range i).map (piece ns)).flatten ++ (piece ns i).take (j + 1) = (((List.range i).map (piece ns)).flatten ++ (piece ns i).take j) ++ [ins] := by
              rw [List.take_succ, hins', List.append_assoc]; rfl
            have hclen : (((List.range i).map (piece ns)).flatten ++ (piece ns i).take j).length ≤ 100 := by
              have h1 := flat_len ns i
              have h2 := piece_len ns i
              have h3 := rowLen_le (ns.getD i 0 % 6)
              rw [List.length_append, List.length_take]
              omega
            have hmod : ns.getD i 0 / 6 % (ns.length - i) < ns.length - i := Nat.mod_lt _ (by omega)
            have hmd1 : (ns.length : Int) - (i : Int) = ((ns.length - i : Nat) : Int) := by omega
            have hmd2 : 0 < ns.length - i := by omega
            have hsp := start_pos ns i hil
            have hzN : IntsAre zs (((List.range (ns.length + 1)).map (start ns)).map Int.ofNat) := by rw [List.map_map]; exact hz₂
            cases hri with
            | @mk y ty wv ky _ hy hw =>
              have hw3 := raw_three hmem hw
              have hif : IfMark := ⟨⟩
              k_steps
              refine ⟨?_⟩
              with_reducible rename News g' L' _ _ => N9'
              with_reducible rename Fr g' L' _ _ => F9'
              obtain ⟨mm, hmm, F9⟩ : ∃ mm, mm = _ ∧ Fr g' L' _ mm := ⟨_, rfl, F9'⟩
              obtain ⟨nn, hnn, N9⟩ : ∃ nn, nn = _ ∧ News g' L' _ nn := ⟨_, rfl, N9'⟩
              clear F9' N9'
              refine mid (fun v h' => ArgV ins.arg v ∧ Fr g' L' h' mm ∧ News g' L' h' nn) ?_ ?_
              · subst hmm hnn
                rcases hw3 with ⟨rfl, hna⟩ | ⟨u9, rfl, hna⟩ | ⟨u9, rfl, hna⟩
                · k_steps
                  exact ⟨⟨_, _, rfl, by rw [hna]; exact .none, by k_asm, by k_asm⟩⟩
                · k_steps
                  with_reducible rename (_ = ns.getD _ 0 / 6 % (ns.length - i)) => hq9
                  rw [Int.toNat_natCast] at hq9
                  subst hq9
                  exact ⟨⟨_, _, rfl, by rw [starts_at (k := i + 1 + ns.getD i 0 / 6 % (ns.length - i)) (by omega) (by omega), hna]; exact ArgV.int _ _, by k_asm, by k_asm⟩⟩
                · k_steps
                  exact ⟨⟨_, _, rfl, by rw [starts_at (k := i + 1) (by omega) (by omega), hna, show ((start ns (i + 1) : Nat) : Int) - 1 = ((start ns (i + 1) - 1 : Nat) : Int) by omega]; exact ArgV.int _ _, by k_asm, by k_asm⟩⟩
              rintro v9 h9 tk9 ⟨hav, F9a, N9a⟩
              subst hmm hnn
              clear F9 N9
              k_steps
              refine ⟨?_⟩
              with_reducible rename News g' L' _ _ => N9
              with_reducible rename Fr g' L' _ _ => F9
              refine app_list F9 N9 (.tail _ (.tail _ hcv)) (by rw [hcvA.length]; omega) fun h10 F10 N10 => ?_
              obtain ⟨n', A1, A2, A3, A4⟩ := hp2.turn N9 hcv hcvA hav hK1 hl4n hy4 hI2 hI2c hk2 hx4 N10
              rw [← ecode] at A4
              k_steps
              exact ⟨_, _, _, n', rfl, F10, A1, A2, A3, by rfl, by rfl, by rfl, by rfl, A4⟩
          · clear N8 F8 hp8
            rintro h₂ tk₂ m₂ n₂' ⟨ms, mc, ml, ma, hp2⟩ hk2 F₂ N₂
            obtain ⟨r2, rfl⟩ := map4 ms mc ml ma
            clear ms mc ml ma
            have hil2 : items.length = (piece ns i).length := by rw [(hax 0 0).length, rowOf_len, piece_len, hb2]
            have ecode : ((List.range (i + 1)).map (piece ns)).flatten = ((List.range i).map (piece ns)).flatten ++ (piece ns i).take items.length := by
              rw [hil2, List.take_length, List.range_succ, List.map_append, List.flatten_append]
              simp
            rw [← ecode] at hp2
            have hoE : (I + 1, oE) ∈ n₂' := hp2.keep _ (by simp)
            have hoI : (I, oI) ∈ n₂' := hp2.keep _ (by simp)
            have hne1 : (I : Addr) ≠ I + 1 := Nat.ne_of_lt (Nat.lt_succ_self _)
            have hoI4 : (I, oI) ∈ flt (I + 1) n₂' := mem_flt hoI hne1
            have hp5 := (hp2.less.drop N₂ hoE (by rw [hEc]; simp) (by rw [hEc]; simp) (fun q hq => (hI q (hp.keep q hq)).2) (fun q hq => (hI q (hp.grow.mem q hq)).2)).drop (fun q hq => N₂ q (flt_mem q hq)) hoI4 (by rw [hIc]; simp) (by rw [hIc]; simp) (fun q hq => (hI q (hp.keep q hq)).1) (fun q hq => (hI q (hp.grow.mem q hq)).1)
            have hDk := hp2.keep _ (List.mem_append_right _ hDK)
            k_steps
            dsimp only [EnumPost]
            refine ⟨_, _, _, flt I (flt (I + 1) n₂'), rfl, by k_asm, fun q hq => ?_, fun q hq => ⟨flt_ne q hq, flt_ne q (flt_mem q hq)⟩, mem_flt (mem_flt hDk (hI _ hk).2) (hI _ hk).1, by rfl, by rfl, by rfl, hp5⟩
            rename News g' L' _ n₂' => N9
            rcases List.mem_cons.mp hq with rfl | hq
            · exact N9 _ hoE
            · rcases List.mem_cons.mp hq with rfl | hq
              · exact N9 _ hoI
              · exact N9 _ (flt_mem _ (flt_mem _ hq))
      · clear N7 F7 hp0
        rintro h₁ tk₁ m₁ n₁ ⟨ms, mc, ml, hp⟩ hk F₁ N₁
        obtain ⟨r, rfl⟩ := map3 ms mc ml
        clear ms mc ml
        rw [hys] at hp
        obtain ⟨cv, cc, hcv, hcvA⟩ := hp.code
        have hcvl : cv.length ≤ 100 := by
          have h1 := flat_len ns ns.length
          rw [hcvA.length]
          omega
        have hGn := hp.grow
        k_steps
        have gfin : ∀ {x1 x2 x3 x4 : Addr × Obj}, Grow n₁ (x1 :: x2 :: x3 :: x4 :: n₁) := fun {_ _ _ _} => ⟨fun q hq => .tail _ (.tail _ (.tail _ (.tail _ hq)))⟩
        refine hret _ _ _ _ _ (by k_asm) (by k_asm) (hGn.trans gfin) (.head _) ?_
        unfold pieces
        refine (hcvA.mono fun _ _ q => q.mono gfin.mem).append (.cons (.mk (i := Ins.this) (.tail _ (.tail _ (.tail _ (.head _)))) ?_) (.cons (.mk (i := Ins.ret) (.tail _ (.tail _ (.head _))) ?_) .nil))
        · exact ArgV.none
        · exact ArgV.none
end
section
theorem words_W10_16 : True := by
  k_with_none
  k_with "m_mem" => first | assumption | exact List.Mem.head _ | (refine List.mem_cons_of_mem _ ?_; walk_at "m_mem") | (refine List.mem_append_left _ ?_; walk_at "m_mem") | (refine List.mem_append_right _ ?_; walk_at "m_mem") | exact Put.mem (by assumption) | (refine' Grow.mem ?q9mg _ ?q9mh; (case q9mg => with_reducible assumption); (case q9mh => walk_at "m_mem")) | (refine' Put.keep ?q9mp ?q9mh ?q9mn; (case q9mp => with_reducible assumption); (case q9mh => walk_at "m_mem"); (case q9mn => walk_at "m_ne")) | (refine' Grow.mem ?q9mg _ ?q9mh; (case q9mh => with_reducible assumption); (case q9mg => walk_at "m_grow")) | fail "m_mem"
  k_with "m_ne" => first | assumption | exact Ne.symm (by assumption) | (refine Nat.ne_of_lt ?_; walk_at "m_lt") | (refine Nat.ne_of_gt ?_; walk_at "m_lt") | fail "m_ne"
  k_with "m_all" => first | assumption | exact tb_ltOf (And.right (by with_reducible assumption)) | exact tb_ltOf (And.right (And.right (by with_reducible assumption))) | exact tb_ltOf (And.right (And.right (And.right (by with_reducible assumption)))) | exact tb_ltOf (And.right (And.right (And.right (And.right (by with_reducible assumption))))) | exact tb_ltOf (And.right (And.right (And.right (And.right (And.right (by with_reducible assumption)))))) | fail "m_all"
  k_with "m_lt" => first | assumption | omega | (refine' lt_mem ?q9ma ?q9mb; (case q9mb => assumption); (case q9ma => first | assumption | exact tb_ltOf (by assumption))) | (refine' lt_mem ?q9ma ?q9mb; (case q9ma => walk_at "m_all"); (case q9mb => walk_at "m_mem")) | (solve_by_elim (config := { maxDepth := 3 })) | fail "m_lt"
  k_with "m_below" => first | assumption | (refine tb_ltOf ?_; (try simp only [AllLt, and_true]); first | assumption | omega) | fail "m_below"
  k_with "m_grow" => first | exact Grow.refl _ | assumption | (refine' Grow.cons ?q9ml ?q9mg; (case q9ml => walk_at "m_below"); (case q9mg => walk_at "m_grow")) | (refine' Grow.trans ?q9mg ?q9mk; (case q9mk => assumption); (case q9mg => walk_at "m_grow")) | (refine' Put.grow ?q9mp ?q9mg ?q9ml; (case q9mp => with_reducible assumption); (case q9ml => walk_at "m_below"); (case q9mg => walk_at "m_grow")) | fail "m_grow"
  k_with "m_news" => first | k_asm | (refine' cb_drop ?q9mN ?q9mS; (case q9mN => assumption); (case q9mS => (intro _ _; walk_at "m_mem"))) | fail "m_news"
  k_with "m_enter" => (refine' code_def ?q9k1 ?q9k2 ?q9k3 ?q9k4 ?q9k5 ?q9kA ?q9kF ?q9kK ?q9k6 ?q9k7 ?q9k8 ?q9k9 ?q9kB ?_ ?q9c2 ?q9c3 ?q9c4 ?q9c5; (case q9kA => exact rfl); (case q9kF => exact rfl); (case q9kK => first | exact rfl | assumption); (case q9k1 => k_asm); (case q9k2 => k_asm); (case q9k3 => k_asm); (case q9k4 => k_asm); (case q9k5 => k_asm); (case q9k6 => k_is); (case q9k7 => k_is); (case q9k8 => ktr_room); (case q9k9 => exact BindsTo.of_eq rfl); (case q9c5 => decide); (case q9kB => exact locs rfl); (case q9c2 => exact rfl); (case q9c3 => exact rfl); (case q9c4 => exact rfl); k_whole; walk_at "m_z0")
  k_with "call ref" => (k_here; k_dflt (first
  | (refine' call_cls ?q9k1 ?q9k2 ?q9k3 ?q9k4 ?q9k5 ?q9k6 ?_; (case q9k1 => k_asm); (case q9k2 => k_asm); (case q9k3 => k_asm); (case q9k4 => k_is); (case q9k5 => k_is); (case q9k6 => k_is); k_whole; walk_at "m_z1")
  | (refine wpAny_call ?_; walk_at "m_enter")))
  k_with "m_start" => (with_reducible rename Frag.In _ _ => hK9; revert hK9; k_fill; intro hK9)
  trivial
theorem mk_unit {w : World} {h₀ h : Heap} {L x d P C cs us hs ls cp pp : Addr} {n : List (Addr × Obj)} {t0 t1 t2 t3 t4 t5 t6 t7 t8 t9 t10 t11 t12 t13 t14 t20 t21 t22 : Tok} (_ : News h₀ L h n) (h1 : (x, instObj 138 d) ∈ n)
    (h2 : (d, dictOf [⟨PyData.keyHash w.params (Str.ofString "name"), .str (Str.ofString "name") t0, .str (Str.ofString "program") t20⟩, ⟨PyData.keyHash w.params (Str.ofString "params"), .str (Str.ofString "params") t1, .ref P⟩, ⟨PyData.keyHash w.params (Str.ofString "code"), .str (Str.ofString "code") t2, .ref C⟩, ⟨PyData.keyHash w.params (Str.ofString "consts"), .str (Str.ofString "consts") t3, .ref cs⟩, ⟨PyData.keyHash w.params (Str.ofString "units"), .str (Str.ofString "units") t4, .ref us⟩, ⟨PyData.keyHash w.params (Str.ofString "handlers"), .str (Str.ofString "handlers") t5, .ref hs⟩, ⟨PyData.keyHash w.params (Str.ofString "lines"), .str (Str.ofString "lines") t6, .ref ls⟩, ⟨PyData.keyHash w.params (Str.ofString "local_count"), .str (Str.ofString "local_count") t7, .int 0 t21⟩, ⟨PyData.keyHash w.params (Str.ofString "cell_count"), .str (Str.ofString "cell_count") t8, .int 0 t22⟩, ⟨PyData.keyHash w.params (Str.ofString "captures"), .str (Str.ofString "captures") t9, .ref cp⟩, ⟨PyData.keyHash w.params (Str.ofString "is_strict"), .str (Str.ofString "is_strict") t10, .bool false⟩, ⟨PyData.keyHash w.params (Str.ofString "uses_arguments"), .str (Str.ofString "uses_arguments") t11, .bool false⟩, ⟨PyData.keyHash w.params (Str.ofString "self_slot"), .str (Str.ofString "self_slot") t12, .none⟩, ⟨PyData.keyHash w.params (Str.ofString "arguments_place"), .str (Str.ofString "arguments_place") t13, .none⟩, ⟨PyData.keyHash w.params (Str.ofString "param_places"), .str (Str.ofString "param_places") t14, .ref pp⟩] 15) ∈ n) (hP : (P, listOf #[] 0) ∈ n) (hus : (us, listOf #[] 0) ∈ n) (hhs : (hs, listOf #[] 0) ∈ n) (hls : (ls, listOf #[] 0) ∈ n) (hpp : (pp, listOf #[] 0) ∈ n) :
    ∃ k, UnitIn w n x d k P C cs us hs ls cp pp := ⟨fun i => ([t0, t1, t2, t3, t4, t5, t6, t7, t8, t9, t10, t11, t12, t13, t14, 0, 0, 0, 0, 0, t20, t21, t22] : List Tok).getD i 0, h1, h2, hP, hus, hhs, hls, hpp⟩
set_option maxRecDepth 100000 in
set_option maxHeartbeats 8000000 in
theorem c_unit {w : World} {mean : ExcName → Option Value} {mg mb : Str → Option Value} {dp un : Nat} {gd : Option (List Code)} {cn : Str} {cs : Scope} {a : Addr} {ccd : Value} {cl : List (Str × Addr)} {outer : List Env} {A₀ : Around} {base h₀ : Heap} {L : Addr} {m : Str → Option Value} {news : List (Addr × Obj)} {s : Shared} {Q E : Value → Shared → Prop} {tp : Tok} {P : Addr}
    (hB : Below A₀ base outer h₀) (hF : Fr h₀ L s.heap m) (hK : (hd.heap_1 w.params).In h₀) (hN : News h₀ L s.heap news) (hT : Top seenText (looseW seenText [Str.ofString "OPERATIONS", Str.ofString "LAST_OPS", Str.ofString "QUIET_OPS"]) mean mg mb h₀) (hkd : cs.kind = .function) (hdp : dp + 4 < recursionLimit) (hun : un + 100 < cLine) (hP : (P, listOf #[] 0) ∈ news)
    (hret : ∀ x d k C cs' us hs ls cp pp h' tk' n', Fr h₀ L h' m → News h₀ L h' n' → Grow news n' → UnitIn w n' x d k P C cs' us hs ls cp pp → (∀ p ∈ news, p.1 < d) → Q (.ref x) { s with heap := h', toks := tk' }) :
    wpAny (model Challenge.rw_sm0039_01.row.prog w) (ktrTop dp un gd cn cs L a ccd cl outer) (call (.ref 138) [.str (Str.ofString "program") tp, .ref P]) Q E s := by
  have hKd := kdMark
  revert hK; k_fill; intro hK
  (k_here; k_dflt (first
  | (refine' call_cls ?k1 ?k2 ?k3 ?k4 ?k5 ?k6 ?_; (case k1 => k_asm); (case k2 => k_asm); (case k3 => k_asm); (case k4 => k_is); (case k5 => k_is); (case k6 => k_is); k_whole; intro x' d' h' F' N' l1 l2; (try k_lt l1); (try k_lt2 l2); (try k_sweep); walk_at "m_enter")))
  k_steps
  with_reducible rename News h₀ L _ _ => N9
  with_reducible rename Fr h₀ L _ _ => F9
  obtain ⟨k, hU⟩ := mk_unit N9 (x := x') (d := d') (by walk_at "m_mem") (by walk_at "m_mem") (by walk_at "m_mem") (by walk_at "m_mem") (by walk_at "m_mem") (by walk_at "m_mem") (by walk_at "m_mem")
  exact hret _ _ _ _ _ _ _ _ _ _ _ _ _ F9 N9 ⟨fun q hq => by walk_at "m_mem"⟩ hU l1
end
section
set_option maxRecDepth 100000 in
set_option maxHeartbeats 8000000 in
theorem c_is_right1 {w : World} {mean : ExcName → Option Value} {mg mb : Str → Option Value} {dp un : Nat} {gd : Option (List Code)} {cn : Str} {cs : Scope} {a : Addr} {ccd : Value} {cl : List (Str × Addr)} {outer : List Env} {A₀ : Around} {h₀ : Heap} {L : Addr} {m : Str → Option Value} {news : List (Addr × Obj)} {s : Shared} {Q E : Value → Shared → Prop} {u d C : Addr} {k : Nat → Tok} {P cs' us hs ls cp pp : Addr} {vs : List Value} {kc : Nat} {code : List Ins}
    (hB : Below A₀ h₀ outer h₀) (hF : Fr h₀ L s.heap m) (hK : (hd.heap_1 w.params).In h₀) (hN : News h₀ L s.heap news) (hT : Top seenText (looseW seenText [Str.ofString "OPERATIONS", Str.ofString "LAST_OPS", Str.ofString "QUIET_OPS"]) mean mg mb h₀) (hkd : cs.kind = .function) (hdp : dp + 28 < recursionLimit) (hun : un + 420 < cLine) (hU : UnitIn w news u d k P C cs' us hs ls cp pp) (hC : (C, listOf vs.toArray kc) ∈ news) (hA : All2 (InsIn news) vs code) (hfit : code.length < 2 ^ 62) (hG : GoodCode code) (hgood : ¬ Bad code)
    (hret : ∀ h' tk' n', Fr h₀ L h' m → News h₀ L h' n' → Grow news n' → Q (.bool true) { s with heap := h', toks := tk' }) :
    wpAny (model Challenge.rw_sm0039_01.row.prog w) (ktrTop dp un gd cn cs L a ccd cl outer) (call (.ref 297) [.ref u]) Q E s :=
  c_is_right hB hF hK hN hT hkd hdp hun hU hC hA hfit hG fun b h' tk' n' F N G hb => by
    have e : b = true := hb.mpr hgood
    rw [e]
    exact hret h' tk' n' F N G
set_option maxRecDepth 100000 in
set_option maxHeartbeats 8000000 in
theorem c_heights1 {w : World} {mean : ExcName → Option Value} {mg mb : Str → Option Value} {dp un : Nat} {gd : Option (List Code)} {cn : Str} {cs : Scope} {a : Addr} {ccd : Value} {cl : List (Str × Addr)} {outer : List Env} {A₀ : Around} {base h₀ : Heap} {L : Addr} {m : Str → Option Value} {news : List (Addr × Obj)} {s : Shared} {Q E : Value → Shared → Prop} {C : Addr} {vs : List Value} {kc : Nat} {code : List Ins}
    (hB : Below A₀ base outer h₀) (hF : Fr h₀ L s.heap m) (hK : (hd.heap_1 w.params).In h₀) (hN : News h₀ L s.heap news) (hT : Top seenText (looseW seenText [Str.ofString "OPERATIONS", Str.ofString "LAST_OPS", Str.ofString "QUIET_OPS"]) mean mg mb h₀) (hkd : cs.kind = .function) (hdp : dp + 8 < recursionLimit) (hun : un + 200 < cLine) (hC : (C, listOf vs.toArray kc) ∈ news) (hA : All2 (InsIn news) vs code) (hfit : code.length < 2 ^ 62) (hG : GoodCode code) (hgood : ¬ Bad code)
    (hret : ∀ fd o xs fs h' tk' n', Fr h₀ L h' m → News h₀ L h' n' → Grow news n' → (fd, o) ∈ n' → (fd == sysModules) = false → HDict Challenge.rw_sm0039_01.row.prog w o xs → All2 (KIn n') xs fs → HFinal code fs → Q (.ref fd) { s with heap := h', toks := tk' }) :
    wpAny (model Challenge.rw_sm0039_01.row.prog w) (ktrTop dp un gd cn cs L a ccd cl outer) (call (.ref 323) [.ref C]) Q E s :=
  c_heights hB hF hK hN hT hkd hdp hun hC hA hfit hG (fun _ _ _ _ _ _ hu => absurd (.inl hu) hgood) hret
set_option maxRecDepth 100000 in
set_option maxHeartbeats 8000000 in
theorem c_stacks1 {w : World} {mean : ExcName → Option Value} {mg mb : Str → Option Value} {dp un : Nat} {gd : Option (List Code)} {cn : Str} {cs : Scope} {a : Addr} {ccd : Value} {cl : List (Str × Addr)} {outer : List Env} {A₀ : Around} {base h₀ : Heap} {L : Addr} {m : Str → Option Value} {news : List (Addr × Obj)} {s : Shared} {Q E : Value → Shared → Prop} {u d C : Addr} {k : Nat → Tok} {P cs' us hs ls cp pp : Addr} {vs : List Value} {kc : Nat} {code : List Ins}
    (hB : Below A₀ base outer h₀) (hF : Fr h₀ L s.heap m) (hK : (hd.heap_1 w.params).In h₀) (hN : News h₀ L s.heap news) (hT : Top seenText (looseW seenText [Str.ofString "OPERATIONS", Str.ofString "LAST_OPS", Str.ofString "QUIET_OPS"]) mean mg mb h₀) (hkd : cs.kind = .function) (hdp : dp + 16 < recursionLimit) (hun : un + 240 < cLine) (hU : UnitIn w news u d k P C cs' us hs ls cp pp) (hC : (C, listOf vs.toArray kc) ∈ news) (hA : All2 (InsIn news) vs code) (hfit : code.length < 2 ^ 62) (hG : GoodCode code) (hgood : ¬ Bad code)
    (hret : ∀ fd o kvs fs h' tk' n', Fr h₀ L h' m → News h₀ L h' n' → Grow news n' → (fd, o) ∈ n' → (fd == sysModules) = false → o.IsDictOf (PySem.intKind Challenge.rw_sm0039_01.row.prog w) kvs → All2 (FsIn n') kvs fs → Final code fs → Q (.ref fd) { s with heap := h', toks := tk' }) :
    wpAny (model Challenge.rw_sm0039_01.row.prog w) (ktrTop dp un gd cn cs L a ccd cl outer) (call (.ref 276) [.ref u]) Q E s :=
  c_stacks_of hB hF hK hN hT hkd hdp hun hU hC hA hfit hG hret fun _ _ _ _ hb => absurd hb hgood
end
section
open LCg LCp
structure LcMark : Prop where
structure NeMark : Prop where
structure ModMark : Prop where
theorem comp_sub {x i c d : Addr × Obj} {n : List (Addr × Obj)} : ∀ p ∈ i :: c :: d :: x :: n, p ∈ x :: i :: c :: d :: n := by
  intro p hp
  simp only [List.mem_cons] at hp ⊢
  rcases hp with h | h | h | h | h <;> simp [h]
theorem words_W9_18 : True := by
  k_with_none
  k_with "m_mem" => first | assumption | exact List.Mem.head _ | (refine List.mem_cons_of_mem _ ?_; walk_at "m_mem") | (refine List.mem_append_left _ ?_; walk_at "m_mem") | (refine List.mem_append_right _ ?_; walk_at "m_mem") | exact Put.mem (by assumption) | (refine' Grow.mem ?q9mg _ ?q9mh; (case q9mg => with_reducible assumption); (case q9mh => walk_at "m_mem")) | (refine' Put.keep ?q9mp ?q9mh ?q9mn; (case q9mp => with_reducible assumption); (case q9mh => walk_at "m_mem"); (case q9mn => walk_at "m_ne")) | (refine' Grow.mem ?q9mg _ ?q9mh; (case q9mh => with_reducible assumption); (case q9mg => walk_at "m_grow")) | fail "m_mem"
  k_with "m_ne" => first | assumption | exact Ne.symm (by assumption) | (refine Nat.ne_of_lt ?_; walk_at "m_lt") | (refine Nat.ne_of_gt ?_; walk_at "m_lt") | fail "m_ne"
  k_with "m_all" => first | assumption | exact tb_ltOf (And.right (by with_reducible assumption)) | exact tb_ltOf (And.right (And.right (by with_reducible assumption))) | exact tb_ltOf (And.right (And.right (And.right (by with_reducible assumption)))) | exact tb_ltOf (And.right (And.right (And.right (And.right (by with_reducible assumption))))) | exact tb_ltOf (And.right (And.right (And.right (And.right (And.right (by with_reducible assumption)))))) | fail "m_all"
  k_with "m_lt" => first | assumption | omega | (refine' lt_mem ?q9ma ?q9mb; (case q9mb => assumption); (case q9ma => first | assumption | exact tb_ltOf (by assumption))) | (refine' lt_mem ?q9ma ?q9mb; (case q9ma => walk_at "m_all"); (case q9mb => walk_at "m_mem")) | (solve_by_elim (config := { maxDepth := 3 })) | fail "m_lt"
  k_with "m_below" => first | assumption | (refine tb_ltOf ?_; (try simp only [AllLt, and_true]); first | assumption | omega) | fail "m_below"
  k_with "m_grow" => first | exact Grow.refl _ | assumption | (refine' Grow.cons ?q9ml ?q9mg; (case q9ml => walk_at "m_below"); (case q9mg => walk_at "m_grow")) | (refine' Grow.trans ?q9mg ?q9mk; (case q9mk => assumption); (case q9mg => walk_at "m_grow")) | (refine' Put.grow ?q9mp ?q9mg ?q9ml; (case q9mp => with_reducible assumption); (case q9ml => walk_at "m_below"); (case q9mg => walk_at "m_grow")) | fail "m_grow"
  k_with "m_news" => first | k_asm | (refine' cb_drop ?q9mN ?q9mS; (case q9mN => assumption); (case q9mS => (intro _ _; walk_at "m_mem"))) | fail "m_news"
  k_with "m_enter" => (refine' code_def ?q9k1 ?q9k2 ?q9k3 ?q9k4 ?q9k5 ?q9kA ?q9kF ?q9kK ?q9k6 ?q9k7 ?q9k8 ?q9k9 ?q9kB ?_ ?q9c2 ?q9c3 ?q9c4 ?q9c5; (case q9kA => exact rfl); (case q9kF => exact rfl); (case q9kK => first | exact rfl | assumption); (case q9k1 => k_asm); (case q9k2 => k_asm); (case q9k3 => k_asm); (case q9k4 => k_asm); (case q9k5 => k_asm); (case q9k6 => k_is); (case q9k7 => k_is); (case q9k8 => ktr_room); (case q9k9 => exact BindsTo.of_eq rfl); (case q9c5 => decide); (case q9kB => exact locs rfl); (case q9c2 => exact rfl); (case q9c3 => exact rfl); (case q9c4 => exact rfl); k_whole; walk_at "m_z0")
  k_with "call ref" => (k_here; k_dflt (first
  | (refine' call_cls ?q9k1 ?q9k2 ?q9k3 ?q9k4 ?q9k5 ?q9k6 ?_; (case q9k1 => k_asm); (case q9k2 => k_asm); (case q9k3 => k_asm); (case q9k4 => k_is); (case q9k5 => k_is); (case q9k6 => k_is); k_whole; walk_at "m_z1")
  | (refine wpAny_call ?_; walk_at "m_enter")))
  k_with "m_start" => (with_reducible rename Frag.In _ _ => hK9; revert hK9; k_fill; intro hK9)
  k_with "m_unit" => first | assumption | (refine' UnitIn.mono ?q9ma ?q9mb; (case q9mb => assumption); (case q9ma => (refine Grow.mem ?_; walk_at "m_grow"))) | fail "m_unit"
  k_with "m_code" => first | assumption | (refine' All2.mono ?q9mb ?q9ma; (case q9mb => assumption); (case q9ma => (refine fun _ _ q => InsIn.mono ?_ q; refine Grow.mem ?_; walk_at "m_grow"))) | fail "m_code"
  k_with "call ref" => (k_here; (with_reducible show wpAny _ _ (call (Value.ref 138) _) _ _ _); k_dflt (refine' c_unit ?q9k1 ?q9k2 ?q9k3 ?q9k4 ?q9k5 ?q9kK ?q9kd ?q9ku ?q9kP ?_; (case q9k1 => k_asm); (case q9k2 => k_asm); (case q9k3 => k_asm); (case q9k4 => k_asm); (case q9k5 => k_asm); (case q9kK => first | exact rfl | assumption); (case q9kd => ktr_room); (case q9ku => ktr_units); (case q9kP => walk_at "m_mem");  k_whole); intro _ _ _ _ _ _ _ _ _ _ _ _ _ _ _ _ _ _; (try dsimp only); (try k_fold))
  k_with "call ref" => (k_here; (with_reducible show wpAny _ _ (call (Value.ref 316) _) _ _ _); k_dflt (refine' c_pieces ?q9k1 ?q9k2 ?q9k3 ?q9k4 ?q9k5 ?q9kK ?q9kd ?q9ku ?q9kC ?q9kI ?q9kp ?q9kl ?_; (case q9k1 => k_asm); (case q9k2 => k_asm); (case q9k3 => k_asm); (case q9k4 => k_asm); (case q9k5 => k_asm); (case q9kK => first | exact rfl | assumption); (case q9kd => ktr_room); (case q9ku => ktr_units); (case q9kC => walk_at "m_mem"); (case q9kI => assumption); (case q9kp => assumption); (case q9kl => assumption);  k_whole); intro _ _ _ _ _ _ _ _ _ _; (try dsimp only); (try k_fold))
  k_with "call ref" => (k_here; (with_reducible show wpAny _ _ (call (Value.ref 297) _) _ _ _); k_dflt (refine' c_is_right ?q9k1 ?q9k2 ?q9k3 ?q9k4 ?q9k5 ?q9kK ?q9kd ?q9ku ?q9kU ?q9kC ?q9kA ?q9kf ?q9kG ?_; (case q9k1 => k_asm); (case q9k2 => k_asm); (case q9k3 => k_asm); (case q9k4 => k_asm); (case q9k5 => k_asm); (case q9kK => first | exact rfl | assumption); (case q9kd => ktr_room); (case q9ku => ktr_units); (case q9kU => walk_at "m_unit"); (case q9kC => walk_at "m_mem"); (case q9kA => walk_at "m_code"); (case q9kf => assumption); (case q9kG => assumption);  k_whole); intro _ _ _ _ _ _ _ _; (try dsimp only); (try k_fold))
  k_with "call ref" => (k_here; (with_reducible show wpAny _ _ (call (Value.ref 323) _) _ _ _); k_dflt (refine' c_heights ?q9k1 ?q9k2 ?q9k3 ?q9k4 ?q9k5 ?q9kK ?q9kd ?q9ku ?q9kC ?q9kA ?q9kf ?q9kG ?_ ?_; (case q9k1 => k_asm); (case q9k2 => k_asm); (case q9k3 => k_asm); (case q9k4 => k_asm); (case q9k5 => k_asm); (case q9kK => first | exact rfl | assumption); (case q9kd => ktr_room); (case q9ku => ktr_units); (case q9kC => walk_at "m_mem"); (case q9kA => walk_at "m_code"); (case q9kf => assumption); (case q9kG => assumption); ) <;> (intros; (try dsimp only); (try k_fold)))
  k_with "call ref" => (k_here; (with_reducible show wpAny _ _ (call (Value.ref 297) _) _ _ _); k_dflt (refine' c_is_right1 ?q9k1 ?q9k2 ?q9k3 ?q9k4 ?q9k5 ?q9kK ?q9kd ?q9ku ?q9kU ?q9kC ?q9kA ?q9kf ?q9kG ?q9kB ?_; (case q9k1 => k_asm); (case q9k2 => k_asm); (case q9k3 => k_asm); (case q9k4 => k_asm); (case q9k5 => k_asm); (case q9kK => first | exact rfl | assumption); (case q9kd => ktr_room); (case q9ku => ktr_units); (case q9kU => walk_at "m_unit"); (case q9kC => walk_at "m_mem"); (case q9kA => walk_at "m_code"); (case q9kf => assumption); (case q9kG => assumption); (case q9kB => assumption);  k_whole); intro _ _ _ _ _ _; (try dsimp only); (try k_fold))
  k_with "call ref" => (k_here; (with_reducible show wpAny _ _ (call (Value.ref 323) _) _ _ _); k_dflt (refine' c_heights1 ?q9k1 ?q9k2 ?q9k3 ?q9k4 ?q9k5 ?q9kK ?q9kd ?q9ku ?q9kC ?q9kA ?q9kf ?q9kG ?q9kB ?_; (case q9k1 => k_asm); (case q9k2 => k_asm); (case q9k3 => k_asm); (case q9k4 => k_asm); (case q9k5 => k_asm); (case q9kK => first | exact rfl | assumption); (case q9kd => ktr_room); (case q9ku => ktr_units); (case q9kC => walk_at "m_mem"); (case q9kA => walk_at "m_code"); (case q9kf => assumption); (case q9kG => assumption); (case q9kB => assumption);  k_whole); intro _ _ _ _ _ _ _ _ _ _ _ _ _ _ _; (try dsimp only); (try k_fold))
  k_with "call ref" => (k_here; (with_reducible show wpAny _ _ (call (Value.ref 276) _) _ _ _); k_dflt (refine' c_stacks1 ?q9k1 ?q9k2 ?q9k3 ?q9k4 ?q9k5 ?q9kK ?q9kd ?q9ku ?q9kU ?q9kC ?q9kA ?q9kf ?q9kG ?q9kB ?_; (case q9k1 => k_asm); (case q9k2 => k_asm); (case q9k3 => k_asm); (case q9k4 => k_asm); (case q9k5 => k_asm); (case q9kK => first | exact rfl | assumption); (case q9kd => ktr_room); (case q9ku => ktr_units); (case q9kU => walk_at "m_unit"); (case q9kC => walk_at "m_mem"); (case q9kA => walk_at "m_code"); (case q9kf => assumption); (case q9kG => assumption); (case q9kB => assumption);  k_whole); intro _ _ _ _ _ _ _ _ _ _ _ _ _ _ _; (try dsimp only); (try k_fold))
  k_with "setAttr ref" => (k_here; (with_reducible show wpAny _ _ (setAttr (Value.ref _) (Str.ofString "code") (Value.ref _)) _ _ _); k_dflt (refine' set_code ?q9k1 ?q9k2 ?q9k3 ?q9k4 ?_; (case q9k1 => k_asm); (case q9k2 => k_asm); (case q9k3 => k_asm); (case q9k4 => walk_at "m_unit"); k_whole); intro _ _ _ _ _ _ _; (try dsimp only))
  k_with "call ref" => (k_here; (with_reducible show wpAny _ _ (call (Value.ref 297) _) _ _ _); (with_reducible rename CellMark => hgo9); clear hgo9; refine Halt.out ?_)
  k_with "compareOp NotEq ref ref" => (k_here; k_dflt (refine' ne_cells ?q9k1 ?q9k2 ?q9k3 ?q9k4 ?q9k5 ?_ ?_; (case q9k1 => k_asm); (case q9k2 => walk_at "m_mem"); (case q9k3 => with_reducible assumption); (case q9k4 => walk_at "m_mem"); (case q9k5 => ktr_units)) <;> (intros; (try dsimp only)))
  k_with "storeName" => (k_here; (with_reducible rename CellMark => hgo9); clear hgo9; k_dflt (refine' store_c2 ?q9F ?q9N ?q9c ?q9m ?q9d ?_ ?q9a ?q9b; (case q9a => rfl); (case q9b => rfl); (case q9F => k_asm); (case q9N => k_asm); (case q9c => rfl); (case q9m => walk_at "m_mem"); (case q9d => assumption)); intro _ _ _ _ _ _ _ _; (try dsimp only))
  k_with "call builtin:sorted" => (k_here; refine Halt.out ?_)
  k_with "eval IfExp" => (k_here; (with_reducible rename CellMark => hgo9); clear hgo9; refine Halt.out ?_)
  k_with "eval ListComp" => (k_here; (with_reducible rename LcMark => hlc9); clear hlc9; refine Halt.out ?_)
  k_with "SrcDU" => (refine Halt.out ?_)
  k_with "SrcD" => (refine Halt.out ?_)
  k_with "SrcLP" => (refine Halt.out ?_)
  k_with "compareOp NotEq ref ref" => (k_here; (with_reducible rename NeMark => hne9); clear hne9; refine Halt.out ?_)
  k_with "binaryOp Mod int int" => (k_here; (with_reducible rename ModMark => hmo9); clear hmo9; refine Halt.out ?_)
  k_with "call builtin:max" => (k_here; refine Halt.out ?_)
  k_with "call builtin:len" => (k_here; (with_reducible show wpAny _ _ (call (Value.builtin "len") [Value.ref _]) _ _ _); k_dflt (refine' stk_len ?q9k1 ?q9k2 ?q9k3 ?q9k4 ?_; (case q9k1 => k_asm); (case q9k2 => walk_at "m_mem"); (case q9k3 => assumption); (case q9k4 => omega); k_whole))
  k_with "subscriptTail Name" => (k_here; (with_reducible show wpAny _ _ (subscriptTail _ _ (Value.ref _) (Value.int (Nat.cast (R := Int) _) _)) _ _ _); k_dflt (refine' fs_item ?q9k1 ?q9k2 ?q9k3 ?q9k4 ?q9k5 ?q9k6 ?_; (case q9k1 => k_asm); (case q9k3 => assumption); (case q9k2 => walk_at "m_mem"); (case q9k4 => walk_at "m_fss"); (case q9k5 => assumption); (case q9k6 => assumption); k_whole); intro _ _ _ _ _; (try dsimp only))
  k_with "subscriptTail" => (k_here; (with_reducible show wpAny _ _ (subscriptTail _ _ (Value.ref _) (Value.int (Nat.cast (R := Int) _) _)) _ _ _); k_dflt (refine' fs_item ?q9k1 ?q9k2 ?q9k3 ?q9k4 ?q9k5 ?q9k6 ?_; (case q9k1 => k_asm); (case q9k3 => assumption); (case q9k2 => walk_at "m_mem"); (case q9k4 => walk_at "m_fss"); (case q9k5 => assumption); (case q9k6 => assumption); k_whole); intro _ _ _ _ _; (try dsimp only))
  k_with "m_tup" => first | assumption | exact TupSub.refl _ | (refine' TupSub.trans ?q9ma TupSub.tail; (case q9ma => walk_at "m_tup")) | (refine' TupSub.trans ?q9ma ?q9mb; (case q9mb => with_reducible assumption); (case q9ma => walk_at "m_tup")) | (refine' TupSub.trans ?q9ma (TupSub.grow ?q9mb); (case q9mb => with_reducible assumption); (case q9ma => walk_at "m_tup")) | fail "m_tup"
  k_with "m_fss" => first | assumption | (refine' TupSub.fss ?q9ma ?q9mb; (case q9mb => assumption); (case q9ma => walk_at "m_tup")) | fail "m_fss"
  k_with "compareOp NotEq int int" => (k_here; (with_reducible show wpAny _ _ (compareOp CmpOp.NotEq (Value.int _ _) (Value.int _ _)) _ _ _); k_dflt (with_reducible refine op_ne_no ?_))
  k_with "call builtin:len" => (k_here; (with_reducible show wpAny _ _ (call (Value.builtin "len") [Value.ref _]) _ _ _); k_dflt (refine' list_len ?q9k1 ?q9k2 ?q9k3 ?q9k4 ?_; (case q9k1 => k_asm); (case q9k2 => walk_at "m_mem"); (case q9k3 => assumption); (case q9k4 => omega); k_whole))
  k_with "call builtin:sum" => (k_here; (with_reducible show wpAny _ _ (call (Value.builtin "sum") [Value.ref _]) _ _ _); k_dflt (refine' sumK ?q9k0 ?q9k1 ?q9k2 ?q9k3 ?q9k4 ?_; (case q9k0 => rfl); (case q9k1 => k_asm); (case q9k2 => k_asm); (case q9k3 => exact ⟨_, (News.get (by k_asm) (by walk_at "m_mem")), rfl, _, rfl⟩); (case q9k4 => assumption); k_whole); intro _ _ _ _ _; (try dsimp only))
  k_with "setAttr ref" => (k_here; (with_reducible rename SetMark => hse9); clear hse9; refine Halt.out ?_)
  k_with "subscriptTail Name" => (k_here; (with_reducible show wpAny _ _ (subscriptTail _ _ (Value.ref _) (Value.int _ _)) _ _ _); (with_reducible rename ItMark => hit9); clear hit9; refine Halt.out ?_)
  k_with "subscriptTail" => (k_here; (with_reducible show wpAny _ _ (subscriptTail _ _ (Value.ref _) (Value.int _ _)) _ _ _); (with_reducible rename ItMark => hit9); clear hit9; refine Halt.out ?_)
  k_with "binaryOp Add ref ref" => (k_here; k_dflt (refine' lists_add ?q9k1 ?q9k2 ?q9k3 ?q9k4 ?q9k5 ?_; (case q9k1 => k_asm); (case q9k2 => k_asm); (case q9k3 => walk_at "m_mem"); (case q9k4 => walk_at "m_mem"); (case q9k5 => (simp only [List.length_cons, List.length_nil, List.length_append, List.length_take, List.length_drop]; omega)); k_whole); intro _ _ _ _ _; (try dsimp only))
  k_with "subscriptTail Name" => (k_here; (with_reducible show wpAny _ _ (subscriptTail _ (PySem.Expr.Slice none (some _) none _) (Value.ref _) (Value.ref _)) _ _ _); k_dflt (refine' list_upto ?q9k1 ?q9k2 ?q9k3 ?q9k4 ?q9k5 ?_ ?q9k6 ?q9k7; (case q9k1 => k_asm); (case q9k2 => k_asm); (case q9k3 => walk_at "m_mem"); (case q9k4 => omega); (case q9k5 => omega); (case q9k6 => with_unfolding_all rfl); (case q9k7 => (intro _; with_unfolding_all rfl)); k_whole); intro _ _ _ _ _; (try dsimp only))
  k_with "subscriptTail" => (k_here; (with_reducible show wpAny _ _ (subscriptTail _ (PySem.Expr.Slice none (some _) none _) (Value.ref _) (Value.ref _)) _ _ _); k_dflt (refine' list_upto ?q9k1 ?q9k2 ?q9k3 ?q9k4 ?q9k5 ?_ ?q9k6 ?q9k7; (case q9k1 => k_asm); (case q9k2 => k_asm); (case q9k3 => walk_at "m_mem"); (case q9k4 => omega); (case q9k5 => omega); (case q9k6 => with_unfolding_all rfl); (case q9k7 => (intro _; with_unfolding_all rfl)); k_whole); intro _ _ _ _ _; (try dsimp only))
  k_with "subscriptTail Name" => (k_here; (with_reducible show wpAny _ _ (subscriptTail _ (PySem.Expr.Slice (some _) none none _) (Value.ref _) (Value.ref _)) _ _ _); k_dflt (refine' list_from ?q9k1 ?q9k2 ?q9k3 ?q9k4 ?q9k5 ?_ ?q9k6 ?q9k7; (case q9k1 => k_asm); (case q9k2 => k_asm); (case q9k3 => walk_at "m_mem"); (case q9k4 => omega); (case q9k5 => omega); (case q9k6 => with_unfolding_all rfl); (case q9k7 => (intro _; with_unfolding_all rfl)); k_whole); intro _ _ _ _ _; (try dsimp only))
  k_with "subscriptTail" => (k_here; (with_reducible show wpAny _ _ (subscriptTail _ (PySem.Expr.Slice (some _) none none _) (Value.ref _) (Value.ref _)) _ _ _); k_dflt (refine' list_from ?q9k1 ?q9k2 ?q9k3 ?q9k4 ?q9k5 ?_ ?q9k6 ?q9k7; (case q9k1 => k_asm); (case q9k2 => k_asm); (case q9k3 => walk_at "m_mem"); (case q9k4 => omega); (case q9k5 => omega); (case q9k6 => with_unfolding_all rfl); (case q9k7 => (intro _; with_unfolding_all rfl)); k_whole); intro _ _ _ _ _; (try dsimp only))
  k_with "subscriptTail Name" => (k_here; (with_reducible show wpAny _ _ (subscriptTail (PySem.Expr.Attribute _ _ _) (PySem.Expr.Slice _ _ _ _) (Value.ref _) (Value.ref _)) _ _ _); k_dflt (refine kba_turn (value' := PySem.Expr.Name (PySem.Str.ofString "_") ⟨0, 0, 0, 0⟩) (fun _ => rfl) ?_))
  k_with "subscriptTail" => (k_here; (with_reducible show wpAny _ _ (subscriptTail (PySem.Expr.Attribute _ _ _) (PySem.Expr.Slice _ _ _ _) (Value.ref _) (Value.ref _)) _ _ _); k_dflt (refine kba_turn (value' := PySem.Expr.Name (PySem.Str.ofString "_") ⟨0, 0, 0, 0⟩) (fun _ => rfl) ?_))
  k_with "call builtin:len" => (k_here; (with_reducible rename LenMark => hle9); clear hle9; refine Halt.out ?_)
  k_with "call type:dict" => (k_here; (with_reducible rename DictMark => hdm9); clear hdm9; refine Halt.out ?_)
  k_with "call ref" => (k_here; (with_reducible show wpAny _ _ (call (Value.ref 304) _) _ _ _); k_dflt (refine' c_deepest ?q9k1 ?q9k2 ?q9k3 ?q9k4 ?q9k5 ?q9kK ?q9kd ?q9ku ?q9kU ?q9kC ?q9kA ?q9kf ?q9kG ?q9kB ?_; (case q9k1 => k_asm); (case q9k2 => k_asm); (case q9k3 => k_asm); (case q9k4 => k_asm); (case q9k5 => k_asm); (case q9kK => first | exact rfl | assumption); (case q9kd => ktr_room); (case q9ku => ktr_units); (case q9kU => walk_at "m_unit"); (case q9kC => walk_at "m_mem"); (case q9kA => walk_at "m_code"); (case q9kf => assumption); (case q9kG => assumption); (case q9kB => assumption);  k_whole); intro _ _ _ _ _ _ _ _ _; (try dsimp only); (try k_fold))
  trivial
set_option maxRecDepth 100000 in
set_option maxHeartbeats 8000000 in
theorem law_holds : PySem.Challenge.rw_sm0039_01.Holds := by
  refine hd ?_
  k_go0
  all_goals (try k_fold)
  with_reducible rename Below callerA _ [] _ => hB
  with_reducible rename Top _ _ _ _ _ _ => hT
  with_reducible rename Frag.In _ _ => hK
  with_reducible rename IntsAre _ _ => hI
  have hgo : CellMark := ⟨⟩
  k_steps
  refine ⟨?_⟩
  with_reducible rename UnitIn _ _ _ _ _ _ _ _ _ _ _ _ _ => hU
  with_reducible rename Grow [_, _, _, _, _] _ => hG
  with_reducible rename IntsAre _ _ => hys
  with_reducible rename Grow _ _ => hG
  with_reducible rename News _ _ _ _ => N1
  with_reducible rename Fr _ _ _ _ => F1
  rename_i Dc hcA tkA neA Pp hpA FpA NpA ltA xU dU kU CU cU usU hsU lsU cpU ppU hU9 tkU n1 LU hlast
  with_reducible rename List Int => ns0
  with_reducible rename (Obj.data _ = Data.cell _) => hcelB
  revert hcelB
  with_reducible rename (Obj.data _ = Data.cell _) => hcelA
  intro hcelB
  obtain ⟨r0, F2⟩ : ∃ r0 : Str → Option Value, Fr _ _ _ (fun y => if y = Str.ofString "unit" then some (Value.ref xU) else if y = Str.ofString "cells" then some (Value.ref Dc) else r0 y) := ⟨_, F1⟩
  clear F1
  have hcells : (Dc, listOf ys.toArray ys.length) ∈ n1 := hG.mem _ (.tail _ (.head _))
  obtain ⟨oS, hoS, vS, dS⟩ : ∃ o, (_ + 1 + 1, o) ∈ n1 ∧ ∃ v, o.data = .cell v := ⟨_, hG.mem _ (.tail _ (.tail _ (.tail _ (.head _)))), _, hcelA⟩
  obtain ⟨oT, hoT, vT, dT⟩ : ∃ o, (_ + 1, o) ∈ n1 ∧ ∃ v, o.data = .cell v := ⟨_, hG.mem _ (.tail _ (.tail _ (.tail _ (.tail _ (.head _))))), _, hcelB⟩
  have hyN : IntsAre ys (((ns0.take 4).map Int.natAbs).map Int.ofNat) := by
    have e : ((ns0.take 4).map Int.natAbs).map Int.ofNat = (ns0.take 4).map (fun k' => if k' < 0 then -k' else k') := by
      rw [List.map_map]
      apply List.map_congr_left
      intro z _
      show ((z.natAbs : Nat) : Int) = if z < 0 then -z else z
      split <;> omega
    rw [e]; exact hys
  generalize hcs : (ns0.take 4).map Int.natAbs = cs0 at hyN
  have hcsl : cs0.length ≤ 4 := by rw [← hcs, List.length_map, List.length_take]; omega
  clear hcs hG LU
  with_reducible rename Shared => s1
  refine mid (fun v h' => ∃ X us cc ns n', v = .ref X ∧ Fr hT.heap s1.heap.objs.size h' (fun y => if y = Str.ofString "unit" then some (Value.ref xU) else if y = Str.ofString "cells" then some (Value.ref Dc) else r0 y) ∧ News hT.heap s1.heap.objs.size h' n' ∧ Grow n1 n' ∧ (X, listOf (List.toArray us) cc) ∈ n' ∧ IntsAre us (List.map Int.ofNat ns) ∧ 0 < ns.length ∧ ns.length ≤ 4) ?_ ?_
  · k_steps
    · with_reducible rename (cs0 ≠ []) => hne
      exact ⟨⟨_, _, rfl, Dc, ys, _, cs0, _, rfl, by k_asm, by k_asm, ⟨fun q hq => by walk_at "m_mem"⟩, by walk_at "m_mem", hyN, List.length_pos_iff.mpr hne, hcsl⟩⟩
    · refine ⟨⟨_, _, rfl, _, _, _, [3, 4, 1], _, rfl, by k_asm, by k_asm, ⟨fun q hq => by walk_at "m_mem"⟩, by walk_at "m_mem", ?_, by decide, by decide⟩⟩
      exact .cons _ _ (.cons _ _ (.cons _ _ .nil))
  · rintro v h2 tk2 ⟨X, us2, cc2, ns, n2, rfl, F3, N3, G2, hX, hIX, hns0, hns4⟩
    have hG := pieces_good hns0 hns4
    have hgood := pieces_fine (cs := ns)
    have hsz := hG.size
    have hfit : (pieces ns).length < 2 ^ 62 := by omega
    have hU2 := hU.mono G2.mem
    have hcells2 := G2.mem _ hcells
    have hoS2 := G2.mem _ hoS
    have hoT2 := G2.mem _ hoT
    have hgo : CellMark := ⟨⟩
    k_steps
    refine ⟨?_⟩
    with_reducible rename Stay _ _ => S4
    with_reducible rename News _ _ _ _ => N4
    with_reducible rename Fr _ _ _ _ => F4
    with_reducible rename UnitIn _ _ _ _ _ _ _ _ _ _ _ _ _ => U4
    rename_i Cd vsd hA4 tk4 n3 F3' N3' G3 hcd3 hcA3 h4 n4 P4
    have hCd4 := S4.list hcd3
    have hCA4 : All2 (InsIn n4) vsd (pieces ns) := hcA3.mono fun _ _ q => S4.tup.ins q
    have hcells4 := S4.list (G3.mem _ hcells2)
    have hoS4 := S4.cell (G3.mem _ hoS2) dS
    have hoT4 := S4.cell (G3.mem _ hoT2) dT
    obtain ⟨hq1, hq2, hq3, hq4, hq5, hq6, hq7⟩ := id U4
    clear S4 P4 hcd3 hcA3 G3 hU2 hcells2 hoS2 hoT2
    k_steps
    rename_i h6 tk6 n6 G6 qk6 ek6 fdM oM xsM fsM h7 tk7 n7 G7 M7 S7 D7 A7 H7 qk7 ek7 fdT oD kvsT fsT h8 tk8 n8 G8 M8 S8 D8 A8 H8 DT hT8 l8 hU8 hV8 F8 N8
    have gg : Grow n4 n8 := (G6.trans G7).trans G8
    have hmM := G8.mem _ M7
    have hkM : All2 (KIn n8) xsM fsM := (TupSub.grow G8).ks A7
    have hcells8 := gg.mem _ hcells4
    have hoS8 := gg.mem _ hoS4
    have hoT8 := gg.mem _ hoT4
    have hCd8 := gg.mem _ hCd4
    have hCA8 : All2 (InsIn n8) vsd (pieces ns) := hCA4.mono fun _ _ q => q.mono gg.mem
    have U8 := U4.mono gg.mem
    clear hcells4 hoS4 hoT4 hCd4 hCA4 U4 hq1 hq2 hq3 hq4 hq5 hq6 hq7 G6 G7 G8 M7 A7 gg
    have hgo : CellMark := ⟨⟩
    k_steps
    refine ⟨?_⟩
    with_reducible rename StayC _ _ => S9
    with_reducible rename Put _ _ _ _ => P9
    with_reducible rename (Obj.data _ = Data.cell (some (Value.ref fdT))) => D9
    with_reducible rename News _ _ _ _ => N9
    with_reducible rename Fr _ _ _ _ => F9
    rename_i h9 o9 n9
    obtain ⟨esM, epM, hxM, hdM, -⟩ := D7.out
    obtain ⟨esD, epD, hxD, hdD, -⟩ := id D8
    have hmM9 : (fdM, oM) ∈ n9 := S9.dict (.tail _ hmM) hdM
    have hmT9 : (fdT, oD) ∈ n9 := S9.dict (.tail _ M8) hdD
    have hkM9 : All2 (KIn n9) xsM fsM := (TupSub.tail.trans S9.tup).ks hkM
    have hkT9 : All2 (FsIn n9) kvsT fsT := (TupSub.tail.trans S9.tup).fss A8
    have hcells9 := S9.list (.tail _ hcells8)
    have hCd9 := S9.list (.tail _ hCd8)
    have hCA9 : All2 (InsIn n9) vsd (pieces ns) := hCA8.mono fun _ _ q => (TupSub.tail.trans S9.tup).ins q
    have U9 := S9.unit (U8.mono (Grow.refl n8).tail.mem)
    have hoS9 := P9.keep (.tail _ hoS8) (Nat.succ_ne_self _)
    have hoT9 := P9.mem
    clear P9 S9 hmM hkM A8 hcells8 hCd8 hCA8 U8 hoS8 hoT8 M8
    have hsz22 := pieces_len hns4
    have hMl := hfinal_le hG H7 hgood
    have hTl := final_le hG H8
    have hMn := H7.nodup
    have hTn := H8.nodup
    have hM2 := hfinal_two hG (pieces_head hns0) H7
    have hT2 := final_two hG (pieces_head hns0) H8
    have hsame := finals_same H8 H7
    refine w_sorted_dict (by rfl) F9 N9 hmM9 D7 S7 hkM9 hMn hM2 (by omega) ?_
    intro DA hA9 tkA9 cA usA WA FA NA9 ltA AA9 pA sA
    obtain ⟨nA, NA, gA, hDA⟩ : ∃ n, News _ _ hA9 n ∧ Grow n9 n ∧ (DA, listOf (List.toArray usA) cA) ∈ n := ⟨_, NA9, (Grow.refl n9).tail, .head _⟩
    have AA : All2 (WIn nA) usA WA := (TupSub.grow gA).ws AA9
    have hmMA := gA.mem _ hmM9
    have hmTA := gA.mem _ hmT9
    have hkMA : All2 (KIn nA) xsM fsM := (TupSub.grow gA).ks hkM9
    have hkTA : All2 (FsIn nA) kvsT fsT := (TupSub.grow gA).fss hkT9
    have hcellsA := gA.mem _ hcells9
    have hCdA := gA.mem _ hCd9
    have hCAA : All2 (InsIn nA) vsd (pieces ns) := hCA9.mono fun _ _ q => q.mono gA.mem
    have UA := U9.mono gA.mem
    have hoSA := gA.mem _ hoS9
    have hoTA := gA.mem _ hoT9
    clear NA9 AA9 gA hmM9 hmT9 hkM9 hkT9 hcells9 hCd9 hCA9 U9 hoS9 hoT9 N9 F9 ltA
    have hlc : LcMark := ⟨⟩
    k_steps
    refine ⟨?_⟩
    refine ListComp_DU (by k_asm) (by with_unfolding_all rfl) (by decide) (by rfl) (by decide) (by rfl) ?_
    k_steps
    refine ⟨?_⟩
    obtain ⟨szT, feT⟩ := fs_entries D8 hkTA hdD
    refine ⟨fdT, esD, epD, nA, rfl, S8, by rfl, by k_asm, by k_asm, ⟨oD, hmTA, hxD, hdD⟩, by rw [szT, sizeLine_eq]; omega, ?_⟩
    rintro s2 ⟨hp2, rfl⟩
    refine rest_U (fun i ys n => Grow nA n ∧ All2 (WIn n) ys (fsT.take i)) ⟨Grow.refl _, by simpa using All2.nil⟩ ?_ ?_
    · rintro i v I oI C9 oC9 D9 m₂ h₂ tk₂ E₂ ys2 n₂ hi ⟨e, he, rfl⟩ ⟨hg₂, hA₂⟩ hNs hx F₂ N₂ off₂ ne₂
      obtain ⟨⟨p, kh⟩, t, hq, ek⟩ := feT i e he
      dsimp only at ek
      rw [ek] at hx
      have hq2 : (p, kh) ∈ fsT := List.mem_of_getElem? hq
      have hkh : kh ≤ 100 := by have := hG.reach (H8.reach _ hq2); simp only at this; omega
      have hmT₂ := hg₂.mem _ hmTA
      have hkT₂ : All2 (FsIn n₂) kvsT fsT := (TupSub.grow hg₂).fss hkTA
      have hoT₂ := hg₂.mem _ hoTA
      k_steps
      with_reducible rename News _ _ _ (_ :: _) => N3
      with_reducible rename Fr _ _ _ _ => F3
      rename_i x3 ws3 ks3 M3 O3 D3 h3 l3
      refine LCg.CompEnd.intro F3 N3 (_ :: n₂) comp_sub ⟨⟨Nat.ne_of_gt l3.1, Nat.ne_of_gt l3.2.1, Nat.ne_of_gt l3.2.2.1⟩, off₂⟩ ⟨oD, .tail _ hmT₂, hxD, hdD⟩ ⟨hg₂.tail, ?_⟩
      rw [take_snoc hq]
      exact All2.snoc (TupSub.tail.ws hA₂) (.mk (.mk (.head _)))
    rintro ys3 n₂ ⟨hg₂, hA₂⟩
    rw [szT, List.take_length] at hA₂
    k_steps
    refine ⟨?_⟩
    with_reducible rename News _ _ _ _ => NB
    with_reducible rename Fr _ _ _ _ => FB
    rename_i DL hL tkL offL
    refine w_sorted_list (c := ys3.length) FB NB (.head _) ((TupSub.tail).ws hA₂) (nodup_fs hTn) hT2 (by omega) ?_
    intro DB hB9 cB usB WB FB9 NB9 ltB AB9 pB sB
    obtain ⟨nB, NB1, gB, hDB, AB⟩ : ∃ n, News _ _ hB9 n ∧ Grow nA n ∧ (DB, listOf (List.toArray usB) cB) ∈ n ∧ All2 (WIn n) usB WB := ⟨_, NB9, ⟨fun q hq => .tail _ (.tail _ (hg₂.mem q hq))⟩, .head _, (TupSub.tail).ws AB9⟩
    have hDAB := gB.mem _ hDA
    have AAB : All2 (WIn nB) usA WA := (TupSub.grow gB).ws AA
    clear NB9 NB FB AB9 hA₂ hg₂ ltB
    have hne : NeMark := ⟨⟩
    k_steps
    refine ⟨?_⟩
    refine ne_ws (by k_asm) hDAB AAB hDB AB (by ktr_units) (fun e => absurd (lex_unique sA sB fun q => (pA.mem_iff.trans ((hsame q).symm.trans pB.mem_iff.symm))) e) (fun _ => ?_)
    have hmMB := gB.mem _ hmMA
    have hkMB : All2 (KIn nB) xsM fsM := (TupSub.grow gB).ks hkMA
    have hcellsB := gB.mem _ hcellsA
    have hCdB := gB.mem _ hCdA
    have hCAB : All2 (InsIn nB) vsd (pieces ns) := hCAA.mono fun _ _ q => q.mono gB.mem
    have UB := UA.mono gB.mem
    have hoSB := gB.mem _ hoSA
    obtain ⟨hq1, hq2, hq3, hq4, hq5, hq6, hq7⟩ := id UB
    clear gB hmMA hkMA hmTA hkTA hcellsA hCdA hCAA UA hoSA hoTA hDAB AAB hDB AB hDA AA pA sA pB sB
    have hlc : LcMark := ⟨⟩
    k_steps
    refine ⟨?_⟩
    rename_i fsZ tZ hZ tkZ nC FZ NZ gC HZ
    have hmMC := gC.mem _ hmMB
    have hkMC : All2 (KIn nC) xsM fsM := (TupSub.grow gC).ks hkMB
    have hcellsC := gC.mem _ hcellsB
    have hCdC := gC.mem _ hCdB
    have hCAC : All2 (InsIn nC) vsd (pieces ns) := hCAB.mono fun _ _ q => q.mono gC.mem
    have UC := UB.mono gC.mem
    have hoSC := gC.mem _ hoSB
    clear hmMB hkMB hcellsB hCdB hCAB UB hoSB hq1 hq2 hq3 hq4 hq5 hq6 hq7 gC
    refine ListComp_D (by k_asm) (by with_unfolding_all rfl) (by decide) (by rfl) (by decide) (by rfl) (by rfl) (by decide) ?_
    k_steps
    refine ⟨?_⟩
    obtain ⟨szM, feM⟩ := hd_entries D7 hkMC hdM
    refine ⟨fdM, esM, epM, nC, rfl, S7, by rfl, by k_asm, by k_asm, ⟨oM, hmMC, hxM, hdM⟩, by rw [szM, sizeLine_eq]; omega, ?_⟩
    rintro s2 ⟨hp2, rfl⟩
    refine rest_P (fun i ys n => Grow nC n ∧ IntsAre ys ((fsM.take i).map fun q => (q.2 : Int))) ⟨Grow.refl _, .nil⟩ ?_ ?_
    · rintro i v ys2 n₂ hi ⟨e, he, rfl⟩ ⟨hg₂, hz₂⟩
      obtain ⟨q, hq, r⟩ := feM i e he
      generalize e.key = kv at r
      cases r with
      | @mk x _ pp =>
        cases pp with
        | @mk t t' k p h hm =>
          refine ⟨x, _, _, _, k, rfl, hg₂.mem _ hm, rfl, rfl, ?_⟩
          intro I oI C9 oC9 D9 m₂ h₂ tk₂ E₂ hNs hx hx2 F₂ N₂ off₂ ne₂
          k_steps
          refine LCg.CompEnd.intro (by k_asm) (by k_asm) n₂ (fun p hp => hp) off₂ ⟨oM, hg₂.mem _ hmMC, hxM, hdM⟩ ⟨hg₂, ?_⟩
          rw [take_snoc hq, List.map_append]
          exact ints_push _ _ hz₂
    rintro ys3 n₂ ⟨hg₂, hz₂⟩
    rw [szM, List.take_length] at hz₂
    k_steps
    refine ⟨?_⟩
    with_reducible rename News _ _ _ (_ :: n₂) => NM
    with_reducible rename Fr _ _ _ _ => FM
    refine max_list_N (by rfl) FM NM ⟨_, (NM _ (.head _)).1, rfl, _, rfl⟩ hz₂ (by rw [List.length_map]; omega) ?_
    intro hE Mx tM tkE FE NE0 hMx hle
    have eM := hmax hMx hle (finals_same HZ H7)
    subst eM
    obtain ⟨nE, NE, gE⟩ : ∃ n, News _ _ hE n ∧ Grow nC n := ⟨_, NE0, hg₂.tail⟩
    have hcellsE := gE.mem _ hcellsC
    have hCdE := gE.mem _ hCdC
    have hCAE : All2 (InsIn nE) vsd (pieces ns) := hCAC.mono fun _ _ q => q.mono gE.mem
    have UE := UC.mono gE.mem
    have hoSE := gE.mem _ hoSC
    have hlenE : vsd.length = (pieces ns).length := hCAE.length
    obtain ⟨hq1, hq2, hq3, hq4, hq5, hq6, hq7⟩ := id UE
    clear NE0 NM FM hMx hle gE hg₂ hz₂ hcellsC hCdC hCAC UC hoSC hmMC hkMC feM
    have hmo : ModMark := ⟨⟩
    k_steps
    refine ⟨?_⟩
    rw [sum_cast]
    refine fmodN rfl hG.pos ?_
    intro spot hspot hslt
    have hgo : CellMark := ⟨⟩
    have hlc : LcMark := ⟨⟩
    k_steps
    refine ⟨?_⟩
    rename_i oS9 nS P9 S9 D9 tkl lP hlP l1 xO dO kO CO cO usO hsO lsO cpO ppO hO tkO nO GO UO LO hF9 FO NO
    obtain ⟨tS, dS9⟩ : ∃ t, oS9.data = .cell (some (.int (spot : Int) t)) := ⟨_, D9⟩
    have gO : Grow nS nO := ⟨fun q hq => GO.mem q (.tail _ hq)⟩
    have hcellsO := gO.mem _ (S9.list hcellsE)
    have hCdO := gO.mem _ (S9.list hCdE)
    have hCAO : All2 (InsIn nO) vsd (pieces ns) := hCAE.mono fun _ _ q => ((S9.tup).trans (TupSub.grow gO)).ins q
    have UUO := (S9.unit UE).mono gO.mem
    have hoSO := gO.mem _ P9.mem
    clear hq1 hq2 hq3 hq4 hq5 hq6 hq7 P9 S9 D9 GO LO gO l1 hcellsE hCdE hCAE UE hoSE dS
    obtain ⟨hq1, hq2, hq3, hq4, hq5, hq6, hq7⟩ := id UUO
    refine LCp.ListComp_P (F₀ := by k_asm) (by with_unfolding_all rfl) (by decide) (by rfl) (by decide) (by rfl) (by rfl) (by decide) ?_
    k_steps
    refine ⟨?_⟩
    refine LCp.SrcLP.ledger (its := vsd.toArray) (k := 0) (by rfl) (by k_asm) (by k_asm) hCdO (by rw [List.size_toArray, hlenE, sizeLine_eq]; omega) ?_
    intro g9
    refine rest_P (fun i ys n => Grow nO n ∧ All2 (InsIn n) ys (((pieces ns).take i).map (Ins.move spot))) ⟨Grow.refl _, by simpa using All2.nil⟩ ?_ ?_
    · rintro i v ys2 n₂ hi hv ⟨hg₂, hA₂⟩
      obtain ⟨ins, hins, r⟩ := hCAO.get' (i := i) (by simpa using hv)
      have hoS₂ := hg₂.mem _ hoSO
      cases r with
      | @mk x t av k _ hm ha =>
        refine ⟨x, _, _, _, k, rfl, hg₂.mem _ hm, rfl, rfl, ?_⟩
        intro I oI C9 oC9 D9 m₂ h₂ tk₂ E₂ hNs hx hx2 F₂ N₂ off₂ ne₂
        generalize ha0 : ins.arg = ar at ha
        cases ha with
        | none =>
          k_steps
          with_reducible rename News _ _ _ (_ :: _) => N3
          with_reducible rename Fr _ _ _ _ => F3
          rename_i X3 h3 l3
          refine LCg.CompEnd.intro F3 N3 (_ :: n₂) comp_sub ⟨⟨Nat.ne_of_gt l3.1, Nat.ne_of_gt l3.2.1, Nat.ne_of_gt l3.2.2.1⟩, off₂⟩ (.inr ⟨_, .tail _ (hg₂.mem _ hCdO), rfl, _, rfl⟩) ⟨hg₂.tail, ?_⟩
          rw [map_take_snoc hins]
          exact All2.snoc (hA₂.mono fun _ _ q => q.mono (Grow.refl n₂).tail.mem) (moved_none (.head _) ha0)
        | int p u =>
          k_steps
          · with_reducible rename News _ _ _ (_ :: _) => N3
            with_reducible rename Fr _ _ _ _ => F3
            rename_i hle X3 h3 l3
            refine LCg.CompEnd.intro F3 N3 (_ :: n₂) comp_sub ⟨⟨Nat.ne_of_gt l3.1, Nat.ne_of_gt l3.2.1, Nat.ne_of_gt l3.2.2.1⟩, off₂⟩ (.inr ⟨_, .tail _ (hg₂.mem _ hCdO), rfl, _, rfl⟩) ⟨hg₂.tail, ?_⟩
            rw [map_take_snoc hins]
            exact All2.snoc (hA₂.mono fun _ _ q => q.mono (Grow.refl n₂).tail.mem) (moved_le (.head _) ha0 (by omega))
          · with_reducible rename News _ _ _ (_ :: _) => N3
            with_reducible rename Fr _ _ _ _ => F3
            rename_i hle X3 h3 l3
            refine LCg.CompEnd.intro F3 N3 (_ :: n₂) comp_sub ⟨⟨Nat.ne_of_gt l3.1, Nat.ne_of_gt l3.2.1, Nat.ne_of_gt l3.2.2.1⟩, off₂⟩ (.inr ⟨_, .tail _ (hg₂.mem _ hCdO), rfl, _, rfl⟩) ⟨hg₂.tail, ?_⟩
            rw [map_take_snoc hins]
            exact All2.snoc (hA₂.mono fun _ _ q => q.mono (Grow.refl n₂).tail.mem) (moved_gt (.head _) ha0 (by omega))
    rintro ys3 n₂ ⟨hg₂, hA₂⟩
    rw [List.size_toArray, hlenE, List.take_length] at hA₂
    have hse : SetMark := ⟨⟩
    k_steps
    refine ⟨?_⟩
    with_reducible rename News _ _ _ (_ :: n₂) => NQ
    with_reducible rename Fr _ _ _ _ => FQ
    rename_i LQ hQ tkQ offQ
    obtain ⟨nP, NP, gP, hLP⟩ : ∃ n, News _ _ hQ n ∧ Grow n₂ n ∧ (LQ, listOf ys3.toArray ys3.length) ∈ n := ⟨_, NQ, (Grow.refl n₂).tail, .head _⟩
    have gOP : Grow nO nP := hg₂.trans gP
    refine set_code FQ hK NP (UO.mono gOP.mem) ?_
    intro hR nR FR NR PR UR SR
    have hLR := SR.list hLP
    have hAR : All2 (InsIn nR) ys3 ((pieces ns).map (Ins.move spot)) := hA₂.mono fun _ _ q => ((TupSub.grow gP).trans SR.tup).ins q
    have hoSR := SR.cell (gOP.mem _ hoSO) dS9
    have hcellsR := SR.list (gOP.mem _ hcellsO)
    have hlen3 : ys3.length = (pieces ns).length := by rw [hAR.length, List.length_map]
    have hlenC : ys.length = cs0.length := by rw [hyN.length, List.length_map]
    clear hq1 hq2 hq3 hq4 hq5 hq6 hq7 NQ NP gP hLP gOP FQ PR SR hA₂ hg₂ hoSO hcellsO hCdO hCAO UUO UO
    obtain ⟨hq1, hq2, hq3, hq4, hq5, hq6, hq7⟩ := id UR
    have hmo : ModMark := ⟨⟩
    k_steps
    refine ⟨?_⟩
    refine fmodN (e := 2) rfl (by omega) ?_
    intro par hpar hp2
    have hit : ItMark := ⟨⟩
    k_steps
    refine ⟨?_⟩
    with_reducible rename News _ _ _ _ => NS
    with_reducible rename Fr _ _ _ _ => FS
    refine' ins_item (l := [Ins.this, Ins.pop]) NS ?hm ?hA ?h0 ?h1 ?hf ?_ ?hs
    case hm => walk_at "m_mem"
    case hA => exact .cons (.mk (i := .this) (by walk_at "m_mem") .none) (.cons (.mk (i := .pop) (by walk_at "m_mem") .none) .nil)
    case h0 => omega
    case h1 => simp only [List.length_cons, List.length_nil]; omega
    case hf => decide
    case hs => with_unfolding_all rfl
    intro vX iX hiX rX
    have hiX' : iX.arg = none ∧ iX.last = false := by
      rw [Int.toNat_natCast] at hiX
      rcases (by omega : par = 0 ∨ par = 1) with e | e <;> rw [e] at hiX <;> cases hiX <;> exact ⟨rfl, rfl⟩
    clear hiX
    have hse : SetMark := ⟨⟩
    k_steps
    refine ⟨?_⟩
    with_reducible rename News _ _ _ _ => NT
    with_reducible rename Fr _ _ _ _ => FT
    rename_i lT hT9 BT
    have hspn : ((spot : Nat) : Int).toNat = spot := Int.toNat_natCast spot
    obtain ⟨nT, NT1, gT, hCT, hAT⟩ : ∃ n, News _ _ hT9 n ∧ Grow nR n ∧ (lT, listOf (ys3.take spot ++ [vX] ++ ys3.drop spot).toArray 0) ∈ n ∧ All2 (InsIn n) (ys3.take spot ++ [vX] ++ ys3.drop spot) (other (pieces ns) spot iX) := by
      rw [hspn] at NT
      refine ⟨_, NT, ⟨fun p hp => .tail _ (.tail _ (.tail _ (.tail _ (.tail _ (.tail _ (.tail _ (.tail _ hp)))))))⟩, .head _, ?_⟩
      exact (((hAR.mono fun _ _ q => q.mono fun p hp => .tail _ (.tail _ (.tail _ (.tail _ (.tail _ (.tail _ (.tail _ (.tail _ hp)))))))).take spot).append (.cons (rX.mono fun p hp => .tail _ (.tail _ (.tail _ (.tail _ hp)))) .nil)).append ((hAR.mono fun _ _ q => q.mono fun p hp => .tail _ (.tail _ (.tail _ (.tail _ (.tail _ (.tail _ (.tail _ (.tail _ hp)))))))).drop spot)
    refine set_code FT hK NT1 (UR.mono gT.mem) ?_
    intro hV nV FV NV PV UV SV
    have hCV := SV.list hCT
    have hAV : All2 (InsIn nV) _ (other (pieces ns) spot iX) := hAT.mono fun _ _ q => SV.tup.ins q
    have hoG : GoodCode (other (pieces ns) spot iX) := other_good hG hslt (by omega) hiX'.1 hiX'.2
    have hoL := hoG.size
    have hofit : (other (pieces ns) spot iX).length < 2 ^ 62 := by omega
    clear hq1 hq2 hq3 hq4 hq5 hq6 hq7 NT FT BT rX hAR hLR hoSR hcellsR UR hCT hAT gT NT1 PV SV
    obtain ⟨hq1, hq2, hq3, hq4, hq5, hq6, hq7⟩ := id UV
    have hln : LenMark := ⟨⟩
    have hdm : DictMark := ⟨⟩
    have hlc : LcMark := ⟨⟩
    k_steps
    · with_reducible rename Under _ => hun
      rename_i b9 h9 tk9 n9 F9 N9 G9 E9
      have e : b9 = false := by
        cases b9 with
        | false => rfl
        | true => exact absurd (.inl hun) (E9.mp rfl)
      subst e
      show GoodW _ _ _ _ _ (Except.ok (Flow.ret (Value.bool true))) _
      k_steps
    refine ⟨?_⟩
    rename_i nO9 gO9 mO9 loO9 dO9 aO9 hOF hX FX NX
    have hbd := HPure.bound hoG hOF.nodup hOF.reach
    have hrm : room (other (pieces ns) spot iX) ≤ 1000000 := by
      unfold room
      rw [other_len hslt]
      exact Nat.le_trans (Nat.mul_le_mul (show _ ≤ 23 by omega) (show _ ≤ 47 by omega)) (by decide)
    refine h_len NX mO9 dO9 loO9 aO9 (by omega) ?_
    k_steps
    refine ⟨?_⟩
    refine ListComp_D (by k_asm) (by with_unfolding_all rfl) (by decide) (by rfl) (by decide) (by rfl) (by rfl) (by decide) ?_
    k_steps
    refine ⟨?_⟩
    obtain ⟨esO, epO, hxO, hdO, -⟩ := id (HDict.out dO9)
    obtain ⟨szO, feO⟩ := hd_entries dO9 aO9 hdO
    refine ⟨_, esO, epO, nO9, rfl, loO9, by rfl, by k_asm, by k_asm, ⟨_, mO9, hxO, hdO⟩, by rw [szO, sizeLine_eq]; omega, ?_⟩
    rintro s2 ⟨hp2, rfl⟩
    rename_i fsO _ _
    refine rest_P (fun i ys n => Grow nO9 n ∧ All2 (PTin n) ys ((fsO.take i).map (·.1))) ⟨Grow.refl _, by simpa using All2.nil⟩ ?_ ?_
    · rintro i v ys2 n₂ hi ⟨e, he, rfl⟩ ⟨hg₂, hA₂⟩
      obtain ⟨q, hq, r⟩ := feO i e he
      generalize e.key = kv at r
      cases r with
      | @mk x _ pp =>
        cases pp with
        | @mk t t' k p h hm =>
          refine ⟨x, _, _, _, k, rfl, hg₂.mem _ hm, rfl, rfl, ?_⟩
          intro I oI C9 oC9 D9 m₂ h₂ tk₂ E₂ hNs hx hx2 F₂ N₂ off₂ ne₂
          k_steps
          with_reducible rename News _ _ _ (_ :: _) => N3
          with_reducible rename Fr _ _ _ _ => F3
          rename_i X3 h3 l3
          refine LCg.CompEnd.intro F3 N3 (_ :: n₂) comp_sub ⟨⟨Nat.ne_of_gt l3.1, Nat.ne_of_gt l3.2.1, Nat.ne_of_gt l3.2.2.1⟩, off₂⟩ ⟨_, .tail _ (hg₂.mem _ mO9), hxO, hdO⟩ ⟨hg₂.tail, ?_⟩
          rw [map_take_snoc hq]
          exact All2.snoc (hA₂.mono fun _ _ q => by cases q with | mk h => exact .mk (.tail _ h)) (.mk (.head _))
    rintro ys4 n₂ ⟨hg₂, hA₂⟩
    rw [szO, List.take_length] at hA₂
    k_steps
    refine ⟨?_⟩
    with_reducible rename News _ _ _ (_ :: n₂) => ND
    with_reducible rename Fr _ _ _ _ => FD
    refine dict_pairs (c := ys4.length) (by rfl) FD ND (.head _) (hA₂.mono fun _ _ q => by cases q with | mk h => exact .mk (.tail _ h)) (by rw [List.length_map]; omega) ?_
    intro DD oD9 hD9 tkD9 FD2 ND2 ltD hLD hdD9
    have hloD : (DD == sysModules) = false := beq_eq_false_iff_ne.mpr (Nat.ne_of_gt (Nat.lt_trans (modules_low hT.nolimit) hLD))
    have hln : LenMark := ⟨⟩
    k_steps
    refine ⟨?_⟩
    refine kda_len (by k_asm) (.head _) hdD9 hloD (by have := fold_len (fsO.map (·.1)) []; simp only [List.length_nil, List.length_map] at this; omega) ?_
    obtain ⟨nDD, NDD, gDD⟩ : ∃ n, News _ _ hD9 n ∧ Grow nV n := ⟨_, ND2, ⟨fun p hp => .tail _ (.tail _ (hg₂.mem _ (gO9.mem _ hp)))⟩⟩
    clear ND2
    have UD := UV.mono gDD.mem
    have hCD := gDD.mem _ hCV
    have hAD := hAV.mono fun _ _ q => InsIn.mono gDD.mem q
    clear UV hCV hAV hq1 hq2 hq3 hq4 hq5 hq6 hq7 mO9 dO9 aO9 hxO hdO feO hg₂ hA₂ gO9 gDD
    have hgo : CellMark := ⟨⟩
    k_steps
    refine ⟨?_⟩
    refine c_is_right (by k_asm) (by k_asm) (by k_asm) (by k_asm) (by k_asm) (by first | exact rfl | assumption) (by ktr_room) (by ktr_units) UD hCD hAD hofit hoG ?_
    intro b9 h9 tk9 n9 F9 N9 G9 E9
    have eb : b9 = ((fsO.length : Int) == (((fsO.map (·.1)).foldl putP []).length : Int)) := by
      have e2 := bad_iff hOF
      rw [← E9] at e2
      rw [Bool.eq_iff_iff, beq_iff_eq, e2, Int.natCast_inj]
      exact eq_comm
    k_steps
end
end Mine
set_option maxRecDepth 100000 in
theorem PySem.Challenge.cw_sm0039_01_holds : PySem.Challenge.rw_sm0039_01.Holds :=
  Mine.law_holds
#print axioms PySem.Challenge.cw_sm0039_01_holds
